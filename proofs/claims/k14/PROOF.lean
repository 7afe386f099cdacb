import PyProof.Rows.All
import Wide.All
import OpenK.AllK
import Wide.FinOn
import HandS.ForMost
import HandS.ForExc
import HandS.Wide
import HandS.Defaults
import HandS.CallSlots
import HandS.More
import HandS.Walk
import HandS.Deep
import HandS.Set
import HandS.SetTxt0
import HandS.Strs
import HandS.SetFor
import HandS.IsInst
import PyProof.ReprRoads
import HandS.TupAny
import HandS.Text
import HandS.FStr
import HandS.Property
import HandS.WordsExc
import HandS.Star
import HandS.HeadEnd
import HandS.HeadHook1
import HandS.HeadHook2
import HandS.HeadHook3
import KE.KStateDown
import Lean
import HandS.Base
import HandS.Call
import HandS.Ends
import HandS.Words
import HandS.Head0
import HandS.Head1
import HandS.Head2
import PySem.Challenge.RW_offscale_k14_places_and_figures
set_option Elab.async false
set_option linter.all false
set_option maxRecDepth 100000
set_option maxHeartbeats 1000000
namespace PV
open PySem PySem.Spec PyProof.Rows L2

/-! values: pure data, frozen objects, live objects by number -/
inductive D where
  | non | bl (b : Bool) | int (i : Int) | str (x : Str)
  | tup (xs : List D) | lst (xs : List D) | dic (kvs : List (Key × D))
  | ins (c : String) (fs : List (String × D))
  | obj (i : Nat) | scr (ns : List Int) | cdic (kvs : List (Str × Int))
instance : Inhabited D := ⟨.non⟩

/-- a live object -/
inductive O where
  | lst (xs : List D) | dic (kvs : List (Key × D)) | ins (c : String) (fs : List (String × D))
abbrev S := List O
/-- a slot: nothing, a value, a list or a dict of its own, an object that is being made -/
inductive Sl where
  | no | val (d : D) | own (xs : List D) | ownD (kvs : List (Key × D)) | self (c : String) (fs : List (String × D))
abbrev DE := List Sl

/-- an exception: its class, its fields -/
structure XD where
  cls : String
  fs : List (String × D)

inductive R (α : Type) where
  | ok (a : α) (s : S) | exc (x : XD) (s : S) | bad
def R.bind {α β : Type} (r : R α) (k : α → S → R β) : R β := match r with
  | .ok a s => k a s
  | .exc x s => .exc x s
  | .bad => .bad
@[simp] theorem R.bind_ok {α β : Type} {a : α} {s : S} {k : α → S → R β} : (R.ok a s).bind k = k a s := rfl
@[simp] theorem R.bind_exc {α β : Type} {x : XD} {s : S} {k : α → S → R β} : (R.exc x s).bind k = .exc x s := rfl
@[simp] theorem R.bind_bad {α β : Type} {k : α → S → R β} : (R.bad : R α).bind k = .bad := rfl

/-! ### how they lie in the heap -/
/-- the ghost: addresses of live objects by number; which addresses are live; the object that is being made -/
structure G where
  mu : Nat → Option Addr
  M : Addr → Prop
  sx : Addr

/-- what is fixed: the written part, the classes' addresses, the world, the classes whose instances are told -/
structure Fx where
  K : PySem.W.Frag
  ca : String → Addr
  w : World
  cl : String → Prop
/-- the names of attributes of instances; no class has one of them as a method or a property -/
def isFld (f : String) : Bool := ["held", "rest", "factors", "last", "strict", "paper", "fixed", "moving", "course", "outcome", "conditions", "spot", "pieces", "at", "steps", "first", "own_rule", "figures", "chooser", "signs", "faults", "hairline", "offset", "notes", "seen", "walked", "last_reading", "left", "gathered", "where", "forks", "states", "is_busy"].contains f

def TupAt (F : Fx) (g : G) (H : Hp) (a : Addr) (vs : List V) : Prop :=
  (Rd H a (.tup vs) ∧ ¬ g.M a) ∨
    ∃ (o : Obj) (its : Array Value) (n : Nat), F.K.lookup a = some o ∧ o.cls = .type "tuple" ∧ o.data = .seq its n ∧ its.size ≤ sizeLine ∧ Vals vs its.toList
/-- a written dict with text keys and whole numbers -/
def CdAt (F : Fx) (a : Addr) (kvs : List (Str × Int)) : Prop := (∃ es n, KDict F.K F.w a es n) ∧ ∀ z, (∀ i, kvs.lookup z = some i → ∃ t, PySem.W.nsIn F.K a z = some (some (.int i t))) ∧ (kvs.lookup z = none → PySem.W.nsIn F.K a z = some none)
def LstAt (F : Fx) (g : G) (H : Hp) (a : Addr) (vs : List V) : Prop := H a = some (.lst vs) ∧ ¬ g.M a
def ScrAt (F : Fx) (g : G) (H : Hp) (a : Addr) (ns : List Int) : Prop :=
  ((∃ o, H a = some (.frz o (.lst (ns.map V.int)))) ∧ ¬ g.M a) ∨
    ∃ (o : Obj) (its : Array Value) (n : Nat), F.K.lookup a = some o ∧ o.cls = .type "list" ∧ o.dict = none ∧ o.data = .seq its n ∧ its.size ≤ sizeLine ∧ Vals (ns.map V.int) its.toList
theorem ScrAt.sq {F : Fx} {g : G} {H : Hp} {a : Addr} {ns : List Int} (h : ScrAt F g H a ns) : SqL F.K H a (ns.map V.int) := by
  rcases h with ⟨⟨o, h⟩, _⟩ | h
  · exact .inl (.inr ⟨o, h⟩)
  · exact .inr h
theorem TupAt.sq {F : Fx} {g : G} {H : Hp} {a : Addr} {vs : List V} (h : TupAt F g H a vs) : SqT F.K H a vs := by
  rcases h with h | h
  · exact .inl h.1
  · exact .inr h
theorem LstAt.sq {F : Fx} {g : G} {H : Hp} {a : Addr} {vs : List V} (h : LstAt F g H a vs) : SqL F.K H a vs := .inl (.inl h.1)

mutual
inductive Rep (F : Fx) (g : G) (H : Hp) : D → V → Prop where
  | non : Rep F g H .non .non
  | bl (b : Bool) : Rep F g H (.bl b) (.bl b)
  | int (i : Int) : Rep F g H (.int i) (.int i)
  | str (x : Str) : Rep F g H (.str x) (.str x)
  | tup {xs : List D} {vs : List V} {a : Addr} : TupAt F g H a vs → Reps F g H xs vs → Rep F g H (.tup xs) (.ref a)
  | lst {xs : List D} {vs : List V} {a : Addr} : LstAt F g H a vs → Reps F g H xs vs → Rep F g H (.lst xs) (.ref a)
  | dic {kvs : List (Key × D)} {kv : List (Key × V)} {a : Addr} : H a = some (.dK kv) → ¬ g.M a → RepK F g H kvs kv → Rep F g H (.dic kvs) (.ref a)
  | ins {c : String} {fs : List (String × D)} {fv : List (Str × V)} {a dx : Addr} : H a = some (.ins (F.ca c) dx fv) → ¬ g.M a → F.cl c → (∀ p ∈ fs, isFld p.1 = true) → RepF F g H fs fv → Rep F g H (.ins c fs) (.ref a)
  | obj {i : Nat} {a : Addr} : g.mu i = some a → Rep F g H (.obj i) (.ref a)
  | scr {ns : List Int} {a : Addr} : ScrAt F g H a ns → Rep F g H (.scr ns) (.ref a)
  | cdic {kvs : List (Str × Int)} {a : Addr} : CdAt F a kvs → Rep F g H (.cdic kvs) (.ref a)
inductive Reps (F : Fx) (g : G) (H : Hp) : List D → List V → Prop where
  | nil : Reps F g H [] []
  | cons {d : D} {v : V} {ds : List D} {vs : List V} : Rep F g H d v → Reps F g H ds vs → Reps F g H (d :: ds) (v :: vs)
inductive RepK (F : Fx) (g : G) (H : Hp) : List (Key × D) → List (Key × V) → Prop where
  | nil : RepK F g H [] []
  | cons {k : Key} {d : D} {v : V} {ds : List (Key × D)} {vs : List (Key × V)} : Rep F g H d v → RepK F g H ds vs → RepK F g H ((k, d) :: ds) ((k, v) :: vs)
inductive RepF (F : Fx) (g : G) (H : Hp) : List (String × D) → List (Str × V) → Prop where
  | nil : RepF F g H [] []
  | cons {f : String} {d : D} {v : V} {ds : List (String × D)} {vs : List (Str × V)} : Rep F g H d v → RepF F g H ds vs → RepF F g H ((f, d) :: ds) ((Str.ofString f, v) :: vs)
end

/-- what stays from one moment to a later one -/
structure Ext (g : G) (H : Hp) (g' : G) (H' : Hp) : Prop where
  keep : ∀ a o, H a = some o → (∀ i, g.mu i ≠ some a) → H' a = some o
  mu : ∀ i a, g.mu i = some a → g'.mu i = some a
  nw : ∀ i a, g'.mu i = some a → g.mu i = some a ∨ H a = none
  fz : ∀ a o, H a = some o → ¬ g.M a → ¬ g'.M a
  gh : ∀ a, g.M a → g'.M a
  stay : ∀ a o, H a = some o → ∃ o', H' a = some o'
  sx : g'.sx = g.sx

def ORep (F : Fx) (g : G) (H : Hp) (a : Addr) : O → Prop
  | .lst xs => ∃ vs, H a = some (.lst vs) ∧ Reps F g H xs vs
  | .dic kvs => ∃ kv, H a = some (.dK kv) ∧ RepK F g H kvs kv
  | .ins c fs => ∃ dx fv, H a = some (.ins (F.ca c) dx fv) ∧ RepF F g H fs fv
/-- the live objects stand -/
structure SR (F : Fx) (st : S) (g : G) (H : Hp) : Prop where
  at_ : ∀ i o, st[i]? = some o → ∃ a, g.mu i = some a ∧ ORep F g H a o
  inj : ∀ i j a, g.mu i = some a → g.mu j = some a → i = j
  dom : ∀ i a, g.mu i = some a → i < st.length
  live : ∀ i a, g.mu i = some a → g.M a
  mh : ∀ a, g.M a → ∃ o, H a = some o

theorem Ext.refl {g : G} {H : Hp} : Ext g H g H := ⟨fun _ _ h _ => h, fun _ _ h => h, fun _ _ h => .inl h, fun _ _ _ h => h, fun _ h => h, fun _ o h => ⟨o, h⟩, rfl⟩
theorem Ext.trans {g g1 g2 : G} {H H1 H2 : Hp} (x : Ext g H g1 H1) (y : Ext g1 H1 g2 H2) : Ext g H g2 H2 where
  keep := fun a o h n => y.keep a o (x.keep a o h n) fun i e => by
    rcases x.nw i a e with q | q
    · exact n i q
    · rw [h] at q; cases q
  mu := fun i a h => y.mu i a (x.mu i a h)
  nw := fun i a h => by
    rcases y.nw i a h with q | q
    · exact x.nw i a q
    · right
      cases e : H a with
      | none => rfl
      | some o =>
        obtain ⟨o', e'⟩ := x.stay a o e
        rw [e'] at q; cases q
  fz := fun a o h n => by
    obtain ⟨o', e'⟩ := x.stay a o h
    exact y.fz a o' e' (x.fz a o h n)
  gh := fun a h => y.gh a (x.gh a h)
  stay := fun a o h => by
    obtain ⟨o', e'⟩ := x.stay a o h
    exact y.stay a o' e'
  sx := y.sx.trans x.sx

section
variable {F : Fx} {st : S} {g g' : G} {H H' : Hp}
/-- g's live numbers are live addresses -/
def Liv (g : G) : Prop := ∀ i a, g.mu i = some a → g.M a
theorem Ext.at_fz (x : Ext g H g' H') (l : Liv g) {a : Addr} {o : HO} (h : H a = some o) (n : ¬ g.M a) : H' a = some o ∧ ¬ g'.M a :=
  ⟨x.keep a o h fun i e => n (l i a e), x.fz a o h n⟩
/-- what data needs to stay -/
structure Wk (g : G) (H : Hp) (g' : G) (H' : Hp) : Prop where
  fz : ∀ a o, H a = some o → ¬ g.M a → H' a = some o ∧ ¬ g'.M a
  mu : ∀ i a, g.mu i = some a → g'.mu i = some a
theorem Ext.wk (x : Ext g H g' H') (l : Liv g) : Wk g H g' H' := ⟨fun _ _ h n => x.at_fz l h n, x.mu⟩
theorem TupAt.wk {a : Addr} {vs : List V} (h : TupAt F g H a vs) (x : Wk g H g' H') : TupAt F g' H' a vs := by
  rcases h with ⟨h | ⟨o, h⟩, n⟩ | h
  · exact .inl ⟨.inl (x.fz _ _ h n).1, (x.fz _ _ h n).2⟩
  · exact .inl ⟨.inr ⟨o, (x.fz _ _ h n).1⟩, (x.fz _ _ h n).2⟩
  · exact .inr h
theorem ScrAt.wk {a : Addr} {ns : List Int} (h : ScrAt F g H a ns) (x : Wk g H g' H') : ScrAt F g' H' a ns := by
  rcases h with ⟨⟨o, h⟩, n⟩ | h
  · exact .inl ⟨⟨o, (x.fz _ _ h n).1⟩, (x.fz _ _ h n).2⟩
  · exact .inr h
theorem LstAt.wk {a : Addr} {vs : List V} (h : LstAt F g H a vs) (x : Wk g H g' H') : LstAt F g' H' a vs := x.fz _ _ h.1 h.2
mutual
theorem Rep.wk (x : Wk g H g' H') : ∀ {d : D} {v : V}, Rep F g H d v → Rep F g' H' d v
  | _, _, .non => .non
  | _, _, .bl b => .bl b
  | _, _, .int i => .int i
  | _, _, .str s => .str s
  | _, _, .tup h r => .tup (h.wk x) (Reps.wk x r)
  | _, _, .lst h r => .lst (h.wk x) (Reps.wk x r)
  | _, _, .dic h n r => .dic (x.fz _ _ h n).1 (x.fz _ _ h n).2 (RepK.wk x r)
  | _, _, .ins h n c f r => .ins (x.fz _ _ h n).1 (x.fz _ _ h n).2 c f (RepF.wk x r)
  | _, _, .obj h => .obj (x.mu _ _ h)
  | _, _, .scr h => .scr (h.wk x)
  | _, _, .cdic h => .cdic h
theorem Reps.wk (x : Wk g H g' H') : ∀ {d : List D} {v : List V}, Reps F g H d v → Reps F g' H' d v
  | _, _, .nil => .nil
  | _, _, .cons h r => .cons (Rep.wk x h) (Reps.wk x r)
theorem RepK.wk (x : Wk g H g' H') : ∀ {d : List (Key × D)} {v : List (Key × V)}, RepK F g H d v → RepK F g' H' d v
  | _, _, .nil => .nil
  | _, _, .cons h r => .cons (Rep.wk x h) (RepK.wk x r)
theorem RepF.wk (x : Wk g H g' H') : ∀ {d : List (String × D)} {v : List (Str × V)}, RepF F g H d v → RepF F g' H' d v
  | _, _, .nil => .nil
  | _, _, .cons h r => .cons (Rep.wk x h) (RepF.wk x r)
end
theorem Rep.mono (l : Liv g) (x : Ext g H g' H') {d : D} {v : V} (r : Rep F g H d v) : Rep F g' H' d v := r.wk (x.wk l)
theorem Reps.mono (l : Liv g) (x : Ext g H g' H') {d : List D} {v : List V} (r : Reps F g H d v) : Reps F g' H' d v := r.wk (x.wk l)
theorem RepK.mono (l : Liv g) (x : Ext g H g' H') {d : List (Key × D)} {v : List (Key × V)} (r : RepK F g H d v) : RepK F g' H' d v := r.wk (x.wk l)
theorem RepF.mono (l : Liv g) (x : Ext g H g' H') {d : List (String × D)} {v : List (Str × V)} (r : RepF F g H d v) : RepF F g' H' d v := r.wk (x.wk l)
end
/-- an exception's class and dict -/
def XRep (F : Fx) (g : G) (H : Hp) (x : XD) (cls : Value) (dd : Option Addr) : Prop :=
  cls = .ref (F.ca x.cls) ∧ ((x.fs = [] ∧ dd = none) ∨ ∃ d fv, dd = some d ∧ H d = some (.xd fv) ∧ ¬ g.M d ∧ RepF F g H x.fs fv)

/-- what is wanted of a result -/
def Post {α β : Type} (F : Fx) (ρ : G → Hp → α → β → Prop) (g : G) (H : Hp) (Q : β → Hp → Prop) (X : XK) : R α → Prop
  | .ok d s' => ∀ g' H' v, SR F s' g' H' → Ext g H g' H' → ρ g' H' d v → Q v H'
  | .exc x s' => ∀ g' H' cls dd, SR F s' g' H' → Ext g H g' H' → XRep F g' H' x cls dd → X cls dd H'
  | .bad => False
section
variable {F : Fx} {α β γ δ : Type} {ρ : G → Hp → α → β → Prop} {ρ' : G → Hp → γ → δ → Prop} {g g1 : G} {H H1 : Hp} {Q : β → Hp → Prop} {Q' : δ → Hp → Prop} {X : XK}
theorem Post.later {r : R α} (h : Post F ρ g H Q X r) (x : Ext g H g1 H1) : Post F ρ g1 H1 Q X r := by
  cases r with
  | ok d s => exact fun g' H' v sr y => h g' H' v sr (x.trans y)
  | exc e s => exact fun g' H' c dd sr y => h g' H' c dd sr (x.trans y)
  | bad => exact h
theorem Post.bind {r : R α} {k : α → S → R γ} (h : Post F ρ' g H Q' X (r.bind k))
    (hk : ∀ a s1 g1 H1 b, r = .ok a s1 → SR F s1 g1 H1 → Ext g H g1 H1 → ρ g1 H1 a b → Post F ρ' g1 H1 Q' X (k a s1) → Q b H1) : Post F ρ g H Q X r := by
  cases r with
  | ok d s => exact fun g' H' v sr y rv => hk d s g' H' v rfl sr y rv (Post.later (show Post F ρ' g H Q' X (k d s) from h) y)
  | exc e s => exact h
  | bad => exact h
end
end PV

set_option Elab.async false
set_option linter.all false
set_option maxRecDepth 100000
set_option maxHeartbeats 1000000
namespace PV
open PySem PySem.Spec PyProof.Rows L2

/-! ### the small language -/
inductive BO where | add | sub | mul | fdiv | mod | pow
  deriving DecidableEq
inductive CO where | eq | ne | lt | le | gt | ge | in_ | nin
  deriving DecidableEq
inductive Ty where | int | bool | str | tuple | list | dict | own (c : String)
  deriving DecidableEq
inductive Bi where | len | abs | int | str | repr | tuple | list
  deriving DecidableEq
mutual
inductive Tg where
  | nm (i : Nat) | tup (ts : Tgs)
inductive Tgs where
  | nil | cons (t : Tg) (ts : Tgs)
end
mutual
inductive E where
  | var (i : Nat) | int (i : Int) | str (s : String) | bl (b : Bool) | non | glob (x : String)
  | tup (es : Es) | lst (es : Es) | lstM (es : Es) | dic0
  | bin (op : BO) (a b : E) | neg (a : E) | not (a : E)
  | and (a b : E) | or (a b : E)
  | cmp (op : CO) (a b : E) | chain (o1 o2 : CO) (a b c : E) | isN (a : E) | notN (a : E)
  | ifx (c : T) (a b : E)
  | sub (a i : E) | slice (a : E) (lo hi : Eo)
  | call (f : String) (es : Es) | bi (b : Bi) (a : E) | isi (a : E) (t : Ty)
  | comp (el : E) (i : Nat) (it : E)
  | own (i : Nat) | listM (a : E) | fmt (a : E) | fstr (es : Es) | join (s : String) (a : E)
  | compI (el : E) (t : Tg) (it : I) (c : To) | sset (a : E) | lset (a : E) | allL (a : E)
  | fld (a : E) (f : String) | prop (a : E) (p : String) | mcall (a : E) (m : String) (es : Es)
inductive Es where
  | nil | cons (e : E) (es : Es)
inductive I where
  | seq (a : E) | rng (n : E) | rng2 (a b : E) | enum (a : E) | zip (a b : E)
inductive To where
  | no | some (t : T)
inductive Eo where
  | no | some (e : E)
inductive T where
  | val (e : E) | and (a b : T) | or (a b : T) | not (a : T)
  | cmp (op : CO) (a b : E) | chain (o1 o2 : CO) (a b c : E) | isN (a : E) | notN (a : E)
end
mutual
inductive St' where
  | expr (e : E) | set (i : Nat) (e : E) | par (i j : Nat) (a b : E) | asg (t : Tg) (e : E)
  | putL (o i e : E)
  | ownNew (i : Nat) (es : Es) | ownApp (i : Nat) (e : E) | freeze (i : Nat) | setF (i : Nat) (f : String) (e : E)
  | ownAdd (i : Nat) (a b : E) | appL (o e : E) | forI (t : Tg) (it : I) (b : Ss) | ownExt (i : Nat) (e : E)
  | aug (i : Nat) (op : BO) (e : E)
  | ret (e : E) | retN | ite (c : T) (a b : Ss) | whl (c : T) (b : Ss)
  | for_ (t : Tg) (it : E) (b : Ss) | forR (i : Nat) (n : E) (b : Ss)
  | brk | cont | pass
  | raise (c : String) (es : Es)
  | tryx (b : Ss) (c : String) (i : Nat) (s : Ss)
inductive Ss where
  | nil | cons (s : St') (r : Ss)
end

/-! ### what operations do -/
mutual
/-- as plain data -/
def D.pd : D → Option PyData
  | .non => some .none
  | .bl b => some (.bool b)
  | .int i => some (.int i)
  | .str x => some (.str x)
  | .tup xs => (D.pds xs).map .tuple
  | .lst xs => (D.pds xs).map .list
  | .dic [] => some (.dict [])
  | _ => none
def D.pds : List D → Option (List PyData)
  | [] => some []
  | x :: xs => match D.pd x, D.pds xs with
    | some d, some ds => some (d :: ds)
    | _, _ => none
end
def ofO (o : Option D) (s : S) : R D := match o with
  | some d => .ok d s
  | none => .bad
/-- the items of a list or tuple -/
def itemsD (st : S) : D → Option (List D)
  | .tup xs => some xs
  | .lst xs => some xs
  | .scr ns => some (ns.map .int)
  | .obj i => match st[i]? with
    | some (.lst xs) => some xs
    | _ => none
  | _ => none
/-- a live list, as it stands -/
def resD (st : S) : D → D
  | .obj i => match st[i]? with
    | some (.lst xs) => .lst xs
    | _ => .obj i
  | d => d
def big (i : Int) : Nat := i.natAbs.log2
def binD : BO → D → D → Option D
  | .add, .int i, .int j => some (.int (i + j))
  | .add, .str x, .str y => if x.length + y.length ≤ sizeLine then some (.str (x ++ y)) else none
  | .add, .tup xs, .tup ys => if xs.length + ys.length ≤ sizeLine then some (.tup (xs ++ ys)) else none
  | .add, .lst xs, .lst ys => if xs.length + ys.length ≤ sizeLine then some (.lst (xs ++ ys)) else none
  | .sub, .int i, .int j => some (.int (i - j))
  | .mul, .int i, .int j => if (i.natAbs < 2 ^ 64 ∨ j.natAbs < 2 ^ 64) ∨ big i + big j < 1000000 then some (.int (i * j)) else none
  | .mul, .lst xs, .int k => if 0 ≤ k ∧ k < 2 ^ 63 ∧ xs.length * k.toNat ≤ sizeLine then some (.lst (List.replicate k.toNat xs).flatten) else none
  | .fdiv, .int i, .int j => if 0 < j ∧ big j < 9000 then some (.int (i / j)) else none
  | .mod, .int i, .int j => if 0 < j then some (.int (i % j)) else none
  | .pow, .int i, .int j => if 0 ≤ j ∧ j ≤ 1000000 ∧ i.natAbs < 2 ^ 64 then some (.int (i ^ j.toNat)) else none
  | _, _, _ => none
def eqD (x y : D) : Option Bool := match x, y with
  | .str a, .str b => some (decide (a = b))
  | .int a, .int b => some (decide (a = b))
  | x, y => match x.pd, y.pd with
  | some a, some b => if (SeqAt.shaped a = true ∧ SeqAt.shaped b = true) ∧ a.hasDict = false ∧ b.hasDict = false then some (PyData.eqv a b) else none
  | _, _ => none
def flatD : D → Bool
  | .non => true
  | .bl _ => true
  | .int _ => true
  | .str _ => true
  | _ => false
def eqFD : D → D → Bool
  | .non, .non => true
  | .bl a, .bl b => a == b
  | .bl a, .int b => (if a then 1 else 0) == b
  | .int a, .bl b => a == (if b then 1 else 0)
  | .int a, .int b => a == b
  | .str a, .str b => a == b
  | _, _ => false
/-- x in y -/
def inD (x y : D) : Option Bool := match x, y with
  | .str x, .str z => (match x.cps.toList with
    | [c] => some (decide (c ∈ z.cps.toList))
    | _ => none)
  | .str x, .cdic kvs => some (kvs.lookup x).isSome
  | x, .tup ys => if flatD x = true ∧ ys.all flatD = true then some (ys.any fun y => eqFD y x) else none
  | x, .lst ys => if flatD x = true ∧ ys.all flatD = true then some (ys.any fun y => eqFD y x) else (match x.pd, D.pds ys with
    | some a, some bs => if (SeqAt.shaped a = true ∧ SeqAt.shaped (.list bs) = true) ∧ a.hasDict = false ∧ PyData.hasDictAll bs = false then some (bs.any fun z => PyData.eqv z a) else none
    | _, _ => none)
  | _, _ => none
def cmpD : CO → D → D → Option Bool
  | .eq, x, y => eqD x y
  | .ne, x, y => (eqD x y).map (!·)
  | .lt, .int i, .int j => some (decide (i < j))
  | .le, .int i, .int j => some (decide (i ≤ j))
  | .gt, .int i, .int j => some (decide (j < i))
  | .ge, .int i, .int j => some (decide (j ≤ i))
  | .in_, x, y => inD x y
  | .nin, x, y => (inD x y).map (!·)
  | _, _, _ => none
def subD (st : S) : D → D → Option D
  | .str z, .int k => if z.length ≤ sizeLine then (atI z.cps.toList k).map fun c => .str ⟨#[c]⟩ else none
  | d, .int k => (itemsD st d).bind fun xs => atI xs k
  | .cdic kvs, .str x => (kvs.lookup x).map .int
  | _, _ => none
def cutD {α : Type} (xs : List α) (lo hi : Option Int) : List α :=
  (xs.drop (HT.sIx xs.length 0 lo)).take (HT.sIx xs.length xs.length hi - HT.sIx xs.length 0 lo)
def sliceD (st : S) : D → Option Int → Option Int → Option D
  | .str z, lo, hi => if z.length ≤ sizeLine then some (.str (cutS z lo hi)) else none
  | .lst xs, lo, hi => some (.lst (cutD xs lo hi))
  | .scr ns, lo, hi => some (.lst (cutD (ns.map .int) lo hi))
  | .obj i, lo, hi => match st[i]? with
    | some (.lst xs) => some (.lst (cutD xs lo hi))
    | _ => none
  | .tup xs, lo, hi => some (.tup (cutD xs lo hi))
  | _, _, _ => none
def truD (st : S) : D → Option Bool
  | .non => some false
  | .bl b => some b
  | .int i => some (i != 0)
  | .str x => if x.length ≤ sizeLine then some (x.length != 0) else none
  | .tup xs => some (!xs.isEmpty)
  | .lst xs => some (!xs.isEmpty)
  | _ => none
def isiD : D → Ty → Option Bool
  | .non, .own _ => none
  | .non, _ => some false
  | .bl _, .int => some true
  | .bl _, .bool => some true
  | .bl _, .own _ => none
  | .bl _, _ => some false
  | .int _, .int => some true
  | .int _, .own _ => none
  | .int _, _ => some false
  | .str _, .str => some true
  | .str _, .own _ => none
  | .str _, _ => some false
  | .tup _, .tuple => some true
  | .tup _, .own _ => none
  | .tup _, _ => some false
  | .lst _, .list => some true
  | .lst _, .own _ => none
  | .lst _, _ => some false
  | .dic _, .dict => some true
  | .dic _, .own _ => none
  | .dic _, _ => some false
  | _, _ => none
def biD (st : S) : Bi → D → Option D
  | .len, .str x => if x.length ≤ sizeLine then some (.int x.length) else none
  | .len, d => (itemsD st d).map fun xs => .int xs.length
  | .abs, .int i => some (.int (if i < 0 then -i else i))
  | .int, .int i => some (.int i)
  | .int, .bl k => some (.int (if k then 1 else 0))
  | .str, .int i => if big i < 1920 then some (.str (toString i)) else none
  | .repr, d => match d.pd with
    | some p => if (p.showable = true ∧ p.depth ≤ 60) ∧ p.hasDict = false ∧ p.shown.length ≤ sizeLine then some (.str p.shown) else none
    | none => none
  | .tuple, .tup xs => some (.tup xs)
  | .tuple, d => (itemsD st d).map .tup
  | .list, d => (itemsD st d).map .lst
  | _, _ => none

/-- {x} -/
def fmtD : D → Option D
  | .str y => if y.length ≤ sizeLine then some (.str y) else none
  | .int i => if big i < 1920 then some (.str (toString i)) else none
  | _ => none
def strsD : List D → Option (List Str)
  | [] => some []
  | .str y :: r => (strsD r).map (y :: ·)
  | _ :: _ => none
def joinD (st : S) (a : Str) (d : D) : Option D :=
  (itemsD st d).bind fun xs => (strsD xs).bind fun ys => if (ys.map (·.length)).sum + ys.length * a.length ≤ 16777216 then some (.str (Txt.join a ys)) else none
inductive Fl where
  | nx (env : DE) | rt (d : D) | bk (env : DE) | ct (env : DE)
inductive RS where
  | ok (f : Fl) (s : S) | exc (x : XD) (env : DE) (s : S) | bad
/-- an expression's result in a statement -/
def R.st {α : Type} (r : R α) (env : DE) (k : α → S → RS) : RS := match r with
  | .ok a s => k a s
  | .exc x s => .exc x env s
  | .bad => .bad
/-- a block: the rest behind a statement -/
def RS.sq (r : RS) (k : DE → S → RS) : RS := match r with
  | .ok (.nx env) s => k env s
  | r => r
mutual
def bindT : Tg → D → DE → Option DE
  | .nm i, d, env => some (env.set i (.val d))
  | .tup ts, .tup xs, env => bindTs ts xs env
  | .tup _, _, _ => none
def bindTs : Tgs → List D → DE → Option DE
  | .nil, [], env => some env
  | .cons t ts, x :: xs, env => match bindT t x env with
    | some env' => bindTs ts xs env'
    | none => none
  | _, _, _ => none
end
def compL (f : D → S → R D) : List D → S → R (List D)
  | [], st => .ok [] st
  | x :: xs, st => match f x st with
    | .ok d s1 => (match compL f xs s1 with
      | .ok ds s2 => .ok (d :: ds) s2
      | _ => .bad)
    | _ => .bad
/-- a comprehension that may pass over items -/
def compO (f : D → S → R (Option D)) : List D → S → R (List D)
  | [], st => .ok [] st
  | x :: xs, st => match f x st with
    | .ok (some d) s1 => (match compO f xs s1 with
      | .ok ds s2 => .ok (d :: ds) s2
      | _ => .bad)
    | .ok none s1 => (match compO f xs s1 with
      | .ok ds s2 => .ok ds s2
      | _ => .bad)
    | _ => .bad
/-- the items of what is walked -/
def itemsC (d : D) : Option (List D) := match d with
  | .str z => some (z.cps.toList.map fun c => .str ⟨#[c]⟩)
  | d => itemsD [] d
def rngD (lo : Int) (n : Nat) : List D := (List.range n).map fun (i : Nat) => D.int (lo + (i : Int))
def enumD (n : Nat) : List D → List D
  | [] => []
  | x :: xs => .tup [.int (n : Int), x] :: enumD (n + 1) xs
def zipD : List D → List D → List D
  | x :: xs, y :: ys => .tup [x, y] :: zipD xs ys
  | _, _ => []
def boolsD : List D → Option (List Bool)
  | [] => some []
  | .bl b :: r => (boolsD r).map (b :: ·)
  | _ :: _ => none
/-- texts in the order of their signs -/
def leS (a b : Str) : Bool := !ltCps b.cps.toList a.cps.toList
def insS (x : Str) : List Str → List Str
  | [] => [x]
  | y :: r => if leS x y = true then x :: y :: r else y :: insS x r
def srtS : List Str → List Str
  | [] => []
  | x :: r => insS x (srtS r)
/-- without duplicates -/
def ddS : List Str → List Str
  | [] => []
  | x :: r => if x ∈ ddS r then ddS r else x :: ddS r
/-- ascending, without duplicates -/
def ssetS (xs : List Str) : List Str := srtS (ddS xs)
def loopS (f : D → DE → S → RS) : List D → DE → S → RS
  | [], env, st => .ok (.nx env) st
  | x :: xs, env, st => match f x env st with
    | .ok (.nx env') s' => loopS f xs env' s'
    | .ok (.ct env') s' => loopS f xs env' s'
    | .ok (.bk env') s' => .ok (.nx env') s'
    | r => r
def whileS (test : DE → S → R Bool) (body : DE → S → RS) : Nat → DE → S → RS
  | 0, _, _ => .bad
  | n + 1, env, st => (test env st).st env fun b s => if b = true then
      (match body env s with
      | .ok (.nx env') s' => whileS test body n env' s'
      | .ok (.ct env') s' => whileS test body n env' s'
      | .ok (.bk env') s' => .ok (.nx env') s'
      | r => r)
    else .ok (.nx env) s
/-- without exceptions -/
def R.nox {α : Type} (r : R α) : R α := match r with
  | .exc _ _ => .bad
  | r => r
/-- an operand that may be a list of one's own -/
def bor (a : E) (env : DE) (st : S) (r : R D) : R D := match a with
  | .own i => (match env[i]? with
    | some (.own xs) => .ok (.lst xs) st
    | _ => .bad)
  | _ => r
def wfuel : Nat := 2 ^ 20000
abbrev Fe := String → List D → S → R D
/-- a def: slots in all, parameters, defaults, body -/
structure Df where
  n : Nat
  np : Nat
  dfl : List D
  body : Ss
  va : Bool
/-- module constants, by name; sub: whether an exception class is one of another -/
structure Cn where
  con : String → Option D
  sub : String → String → Option Bool
  xn : String → Bool
  mky : String → String → Option String
  ctor : String → Option Df

mutual
def evE (C : Cn) (Φ : Fe) : E → DE → S → R D
  | .var i, env, st => (match env[i]? with
    | some (.val d) => .ok d st
    | _ => .bad)
  | .int i, _, st => .ok (.int i) st
  | .str s, _, st => .ok (.str (Str.ofString s)) st
  | .bl b, _, st => .ok (.bl b) st
  | .non, _, st => .ok .non st
  | .glob x, _, st => ofO (C.con x) st
  | .tup es, env, st => (evEs C Φ es env st).bind fun ds s => if ds.length ≤ sizeLine then .ok (.tup ds) s else .bad
  | .lst es, env, st => (evEs C Φ es env st).bind fun ds s => if ds.length ≤ sizeLine then .ok (.lst ds) s else .bad
  | .lstM es, env, st => (evEs C Φ es env st).bind fun ds s => if ds.length ≤ sizeLine then .ok (.obj s.length) (s ++ [.lst ds]) else .bad
  | .dic0, _, st => .ok (.dic []) st
  | .bin op a b, env, st => (bor a env st (evE C Φ a env st)).bind fun x s1 => (bor b env s1 (evE C Φ b env s1)).bind fun y s2 => ofO (binD op (resD s2 x) (resD s2 y)) s2
  | .neg a, env, st => (evE C Φ a env st).bind fun x s1 => (match x with
    | .int i => .ok (.int (-i)) s1
    | _ => .bad)
  | .not a, env, st => (evE C Φ a env st).bind fun x s1 => (match x with
    | .bl b => .ok (.bl !b) s1
    | _ => .bad)
  | .and a b, env, st => (evE C Φ a env st).bind fun x s1 => (match x with
    | .bl true => evE C Φ b env s1
    | .bl false => .ok (.bl false) s1
    | _ => .bad)
  | .or a b, env, st => (evE C Φ a env st).bind fun x s1 => (match x with
    | .bl false => evE C Φ b env s1
    | .bl true => .ok (.bl true) s1
    | _ => .bad)
  | .cmp op a b, env, st => (bor a env st (evE C Φ a env st)).bind fun x s1 => (bor b env s1 (evE C Φ b env s1)).bind fun y s2 => ofO ((cmpD op (resD s2 x) (resD s2 y)).map .bl) s2
  | .chain o1 o2 a b c, env, st => (evE C Φ a env st).bind fun x s1 => (evE C Φ b env s1).bind fun y s2 => (match cmpD o1 x y with
    | some true => (evE C Φ c env s2).bind fun z s3 => ofO ((cmpD o2 y z).map .bl) s3
    | some false => .ok (.bl false) s2
    | none => .bad)
  | .isN a, env, st => (evE C Φ a env st).bind fun x s1 => (match x with
    | .non => .ok (.bl true) s1
    | _ => .ok (.bl false) s1)
  | .notN a, env, st => (evE C Φ a env st).bind fun x s1 => (match x with
    | .non => .ok (.bl false) s1
    | _ => .ok (.bl true) s1)
  | .ifx c a b, env, st => (evT C Φ c env st).bind fun k s1 => if k = true then evE C Φ a env s1 else evE C Φ b env s1
  | .sub a i, env, st => (bor a env st (evE C Φ a env st)).bind fun x s1 => (evE C Φ i env s1).bind fun y s2 => ofO (subD s2 x y) s2
  | .slice a lo hi, env, st => (bor a env st (evE C Φ a env st)).bind fun x s1 => (evO C Φ lo env s1).bind fun l s2 => (evO C Φ hi env s2).bind fun h s3 => ofO (sliceD s3 x l h) s3
  | .call f es, env, st => (evEs C Φ es env st).bind fun ds s1 => Φ f ds s1
  | .bi b a, env, st => (bor a env st (evE C Φ a env st)).bind fun x s1 => ofO (biD s1 b x) s1
  | .isi a t, env, st => (evE C Φ a env st).bind fun x s1 => ofO ((isiD x t).map .bl) s1
  | .comp el i it, env, st => (evE C Φ it env st).bind fun x s1 => (match itemsD [] x with
    | some xs => (compL (fun d s => evE C Φ el (env.set i (.val d)) s) xs s1).bind fun ds s2 => if ds.length ≤ sizeLine then .ok (.lst ds) s2 else .bad
    | none => .bad)
  | .compI el t it c, env, st => (evI C Φ it env st).bind fun xs s1 => (compO (fun d s => match bindT t d env with
    | some env' => (evC C Φ c env' s).bind fun k s2 => if k = true then (evE C Φ el env' s2).bind fun y s3 => .ok (some y) s3 else .ok none s2
    | none => .bad) xs s1).bind fun ds s2 => if ds.length ≤ sizeLine then .ok (.lst ds) s2 else .bad
  | .sset a, env, st => (bor a env st (evE C Φ a env st)).bind fun x s1 => (match x with
    | .lst xs => (match strsD xs with
      | some zs => if zs.length < 4000 ∧ (ddS zs).length < 64 then .ok (.lst ((ssetS zs).map .str)) s1 else .bad
      | none => .bad)
    | _ => .bad)
  | .lset a, env, st => (bor a env st (evE C Φ a env st)).bind fun x s1 => (match x with
    | .lst xs => (match strsD xs with
      | some zs => if zs.length < 4000 then .ok (.int (ddS zs).length) s1 else .bad
      | none => .bad)
    | _ => .bad)
  | .allL a, env, st => (bor a env st (evE C Φ a env st)).bind fun x s1 => (match x with
    | .lst xs => (match boolsD xs with
      | some bs => .ok (.bl (bs.all id)) s1
      | none => .bad)
    | _ => .bad)
  | .fld a f, env, st => (evE C Φ a env st).bind fun x s1 => (match x with
    | .ins _ fs => ofO (fs.lookup f) s1
    | _ => .bad)
  | .prop a p, env, st => (evE C Φ a env st).bind fun x s1 => (match x with
    | .ins c _ => (match C.mky c p with
      | some q => (Φ q [x] s1).nox
      | none => .bad)
    | _ => .bad)
  | .mcall a m es, env, st => (evE C Φ a env st).bind fun x s1 => (match x with
    | .ins c _ => (match C.mky c m with
      | some q => (evEs C Φ es env s1).bind fun ds s2 => Φ q (x :: ds) s2
      | none => .bad)
    | _ => .bad)
  | .own _, _, _ => .bad
  | .listM a, env, st => (bor a env st (evE C Φ a env st)).bind fun x s1 => (match itemsD s1 x with
    | some xs => .ok (.obj s1.length) (s1 ++ [.lst xs])
    | none => .bad)
  | .fmt a, env, st => (evE C Φ a env st).bind fun x s1 => ofO (fmtD x) s1
  | .fstr es, env, st => evJ C Φ es Str.empty env st
  | .join s a, env, st => (bor a env st (evE C Φ a env st)).bind fun y s1 => ofO (joinD s1 (Str.ofString s) y) s1
def evT (C : Cn) (Φ : Fe) : T → DE → S → R Bool
  | .and a b, env, st => (evT C Φ a env st).bind fun k s1 => if k = true then evT C Φ b env s1 else .ok false s1
  | .or a b, env, st => (evT C Φ a env st).bind fun k s1 => if k = true then .ok true s1 else evT C Φ b env s1
  | .not a, env, st => (evT C Φ a env st).bind fun k s1 => .ok (!k) s1
  | .val e, env, st => (evE C Φ e env st).bind fun x s1 => (match truD s1 x with
    | some b => .ok b s1
    | none => .bad)
  | .cmp op a b, env, st => (bor a env st (evE C Φ a env st)).bind fun x s1 => (bor b env s1 (evE C Φ b env s1)).bind fun y s2 => (match cmpD op (resD s2 x) (resD s2 y) with
    | some b => .ok b s2
    | none => .bad)
  | .chain o1 o2 a b c, env, st => (evE C Φ a env st).bind fun x s1 => (evE C Φ b env s1).bind fun y s2 => (match cmpD o1 x y with
    | some true => (evE C Φ c env s2).bind fun z s3 => (match cmpD o2 y z with
      | some b => .ok b s3
      | none => .bad)
    | some false => .ok false s2
    | none => .bad)
  | .isN a, env, st => (evE C Φ a env st).bind fun x s1 => (match x with
    | .non => .ok true s1
    | _ => .ok false s1)
  | .notN a, env, st => (evE C Φ a env st).bind fun x s1 => (match x with
    | .non => .ok false s1
    | _ => .ok true s1)
def evJ (C : Cn) (Φ : Fe) : Es → Str → DE → S → R D
  | .nil, acc, _, st => .ok (.str acc) st
  | .cons e es, acc, env, st => (evE C Φ e env st).bind fun d s1 => (match d with
    | .str y => if (acc ++ y).length ≤ sizeLine then evJ C Φ es (acc ++ y) env s1 else .bad
    | _ => .bad)
def evI (C : Cn) (Φ : Fe) : I → DE → S → R (List D)
  | .seq a, env, st => (evE C Φ a env st).bind fun x s1 => (match itemsC x with
    | some xs => .ok xs s1
    | none => .bad)
  | .rng n, env, st => (evE C Φ n env st).bind fun x s1 => (match x with
    | .int k => if -(2 ^ 62) ≤ k ∧ k < 2 ^ 62 then .ok (rngD 0 k.toNat) s1 else .bad
    | _ => .bad)
  | .rng2 a b, env, st => (evE C Φ a env st).bind fun x s1 => (evE C Φ b env s1).bind fun y s2 => (match x, y with
    | .int i, .int j => if ((-(2 ^ 62) ≤ i ∧ i < 2 ^ 62) ∧ -(2 ^ 62) ≤ j ∧ j < 2 ^ 62) then .ok (rngD i (j - i).toNat) s2 else .bad
    | _, _ => .bad)
  | .enum a, env, st => (evE C Φ a env st).bind fun x s1 => (match x with
    | .lst xs => .ok (enumD 0 xs) s1
    | _ => .bad)
  | .zip a b, env, st => (evE C Φ a env st).bind fun x s1 => (evE C Φ b env s1).bind fun y s2 => (match x, y with
    | .lst xs, .lst ys => .ok (zipD xs ys) s2
    | _, _ => .bad)
def evC (C : Cn) (Φ : Fe) : To → DE → S → R Bool
  | .no, _, st => .ok true st
  | .some t, env, st => evT C Φ t env st
def evEs (C : Cn) (Φ : Fe) : Es → DE → S → R (List D)
  | .nil, _, st => .ok [] st
  | .cons e es, env, st => (evE C Φ e env st).bind fun d s1 => (evEs C Φ es env s1).bind fun ds s2 => .ok (d :: ds) s2
def evO (C : Cn) (Φ : Fe) : Eo → DE → S → R (Option Int)
  | .no, _, st => .ok none st
  | .some e, env, st => (evE C Φ e env st).bind fun d s1 => (match d with
    | .int i => .ok (some i) s1
    | _ => .bad)
end
end PV

set_option Elab.async false
set_option linter.all false
set_option maxRecDepth 100000
set_option maxHeartbeats 1000000
namespace PV
open PySem PySem.Spec PyProof.Rows L2
/-! ### texts in order -/
theorem lt_irr : ∀ a : List Nat, ltCps a a = false
  | [] => rfl
  | x :: a => by simp [ltCps, lt_irr a]
theorem lt_tri : ∀ a b : List Nat, ltCps a b = false → ltCps b a = false → a = b
  | [], [], _, _ => rfl
  | [], _ :: _, h, _ => by cases h
  | _ :: _, [], _, h => by cases h
  | x :: a, y :: b, h1, h2 => by
    simp only [ltCps, Bool.or_eq_false_iff, decide_eq_false_iff_not, Bool.and_eq_false_iff, beq_eq_false_iff_ne] at h1 h2
    have e : x = y := by omega
    subst e
    rcases h1.2 with q | q
    · exact absurd rfl q
    · rcases h2.2 with p | p
      · exact absurd rfl p
      · rw [lt_tri a b q p]
theorem lt_trn : ∀ a b c : List Nat, ltCps a b = true → ltCps b c = true → ltCps a c = true
  | [], _, [], h1, h2 => by
    rename_i b
    cases b with
    | nil => cases h1
    | cons => cases h2
  | [], _, _ :: _, _, _ => rfl
  | _ :: _, [], _, h1, _ => by cases h1
  | _ :: _, _ :: _, [], _, h2 => by cases h2
  | x :: a, y :: b, z :: c, h1, h2 => by
    simp only [ltCps, Bool.or_eq_true, decide_eq_true_eq, Bool.and_eq_true, beq_iff_eq] at h1 h2 ⊢
    rcases h1 with h1 | ⟨rfl, h1⟩
    · rcases h2 with h2 | ⟨rfl, h2⟩
      · exact .inl (by omega)
      · exact .inl h1
    · rcases h2 with h2 | ⟨rfl, h2⟩
      · exact .inl h2
      · exact .inr ⟨rfl, lt_trn a b c h1 h2⟩
theorem str_ext {x y : Str} (h : x.cps.toList = y.cps.toList) : x = y := by
  cases x; cases y
  exact congrArg Str.mk (Array.toList_inj.mp h)
theorem le_anti {x y : Str} (h1 : leS x y = true) (h2 : leS y x = true) : x = y := by
  unfold leS at h1 h2
  rw [Bool.not_eq_true'] at h1 h2
  exact str_ext (lt_tri _ _ h2 h1)
theorem le_tot {x y : Str} (h : ¬ leS x y = true) : leS y x = true := by
  unfold leS at h ⊢
  simp only [Bool.not_eq_true', Bool.not_eq_false] at h ⊢
  cases e : ltCps x.cps.toList y.cps.toList with
  | false => rfl
  | true =>
    have := lt_trn _ _ _ e h
    rw [lt_irr] at this
    cases this
theorem le_trn {x y z : Str} (h1 : leS x y = true) (h2 : leS y z = true) : leS x z = true := by
  by_cases h : leS x z = true
  · exact h
  · exfalso
    have h3 := le_tot h
    have e := h
    unfold leS at h1 h2 e
    simp only [Bool.not_eq_true', Bool.not_eq_false] at h1 h2 e
    -- z < x, x ≤ y, y ≤ z
    cases e1 : ltCps x.cps.toList y.cps.toList with
    | true =>
      have := lt_trn _ _ _ e e1
      rw [h2] at this
      cases this
    | false =>
      have exy := lt_tri _ _ e1 h1
      rw [exy] at e
      rw [e] at h2
      cases h2
theorem rising_pair : ∀ (p : Str) (l : List Str), risingS p l = true → (p :: l).Pairwise fun a b => leS a b = true
  | p, [], _ => List.pairwise_singleton _ _
  | p, x :: r, h => by
    have h' : (!ltCps x.cps.toList p.cps.toList && risingS x r) = true := h
    rw [Bool.and_eq_true] at h'
    have ih := rising_pair x r h'.2
    refine List.pairwise_cons.mpr ⟨fun y hy => ?_, ih⟩
    rcases List.mem_cons.mp hy with e | e
    · rw [e]; exact h'.1
    · exact le_trn h'.1 ((List.pairwise_cons.mp ih).1 y e)
theorem sorted_pair : ∀ {l : List Str}, sortedS l = true → l.Pairwise fun a b => leS a b = true
  | [], _ => List.Pairwise.nil
  | x :: r, h => rising_pair x r h
theorem sorted_uniq : ∀ {l m : List Str}, (l.Pairwise fun a b => leS a b = true) → (m.Pairwise fun a b => leS a b = true) → l.Perm m → l = m
  | [], m, _, _, p => (List.nil_perm.mp p).symm
  | x :: l, [], _, _, p => by have := p.length_eq; cases this
  | x :: l, y :: m, h1, h2, p => by
    have c1 := List.pairwise_cons.mp h1
    have c2 := List.pairwise_cons.mp h2
    have e : x = y := by
      rcases List.mem_cons.mp (p.mem_iff.mp (List.mem_cons_self (a := x))) with e | e
      · exact e
      · rcases List.mem_cons.mp (p.mem_iff.mpr (List.mem_cons_self (a := y))) with q | q
        · exact q.symm
        · exact le_anti (c1.1 y q) (c2.1 x e)
    subst e
    rw [sorted_uniq c1.2 c2.2 (List.perm_cons x |>.mp p)]
theorem ins_perm (x : Str) : ∀ l : List Str, (insS x l).Perm (x :: l)
  | [] => List.Perm.refl _
  | y :: r => by
    unfold insS
    split
    · exact List.Perm.refl _
    · exact ((ins_perm x r).cons y).trans (List.Perm.swap x y r)
theorem ins_sorted (x : Str) : ∀ {l : List Str}, (l.Pairwise fun a b => leS a b = true) → (insS x l).Pairwise fun a b => leS a b = true
  | [], _ => List.pairwise_singleton _ _
  | y :: r, h => by
    have c := List.pairwise_cons.mp h
    unfold insS
    split
    · rename_i hx
      refine List.pairwise_cons.mpr ⟨fun z hz => ?_, h⟩
      rcases List.mem_cons.mp hz with e | e
      · rw [e]; exact hx
      · exact le_trn hx (c.1 z e)
    · rename_i hx
      refine List.pairwise_cons.mpr ⟨fun z hz => ?_, ins_sorted x c.2⟩
      rcases List.mem_cons.mp ((ins_perm x r).mem_iff.mp hz) with e | e
      · rw [e]; exact le_tot hx
      · exact c.1 z e
theorem srt_perm : ∀ l : List Str, (srtS l).Perm l
  | [] => List.Perm.refl _
  | x :: r => (ins_perm x _).trans ((srt_perm r).cons x)
theorem srt_sorted : ∀ l : List Str, (srtS l).Pairwise fun a b => leS a b = true
  | [] => List.Pairwise.nil
  | x :: r => ins_sorted x (srt_sorted r)
theorem dd_mem : ∀ {l : List Str} {z : Str}, z ∈ ddS l ↔ z ∈ l
  | [], z => Iff.rfl
  | x :: r, z => by
    unfold ddS
    split
    · rename_i h
      rw [dd_mem, List.mem_cons]
      exact ⟨.inr, fun q => q.elim (fun e => e ▸ dd_mem.mp h) id⟩
    · rw [List.mem_cons, List.mem_cons, dd_mem]
theorem dd_nodup : ∀ l : List Str, (ddS l).Nodup
  | [] => List.nodup_nil
  | x :: r => by
    unfold ddS
    split
    · exact dd_nodup r
    · rename_i h
      exact List.nodup_cons.mpr ⟨h, dd_nodup r⟩
theorem nodup_perm : ∀ {L M : List Str}, L.Nodup → M.Nodup → (∀ z, z ∈ L ↔ z ∈ M) → L.Perm M
  | [], M, _, _, h => by
    have : M = [] := List.eq_nil_iff_forall_not_mem.mpr fun z hz => nomatch (h z).mpr hz
    rw [this]
  | x :: L, M, n1, n2, h => by
    have hx := (h x).mp List.mem_cons_self
    have c := List.nodup_cons.mp n1
    have p := List.perm_cons_erase hx
    refine List.Perm.trans (List.Perm.cons x (nodup_perm c.2 (n2.erase x) fun z => ?_)) p.symm
    rw [List.Nodup.mem_erase_iff n2]
    constructor
    · intro hz
      exact ⟨fun e => c.1 (e ▸ hz), (h z).mp (List.mem_cons_of_mem _ hz)⟩
    · rintro ⟨ne, hz⟩
      rcases List.mem_cons.mp ((h z).mpr hz) with e | e
      · exact absurd e ne
      · exact e
theorem sset_eq {zs L ys : List Str} (hm : ∀ z, z ∈ L ↔ z ∈ zs) (nd : L.Nodup) (p : ys.Perm L) (s : sortedS ys = true) : ys = ssetS zs :=
  sorted_uniq (sorted_pair s) (srt_sorted _) (p.trans ((nodup_perm nd (dd_nodup zs) fun z => (hm z).trans dd_mem.symm).trans (srt_perm _).symm))
theorem dset_len {zs L : List Str} (hm : ∀ z, z ∈ L ↔ z ∈ zs) (nd : L.Nodup) : L.length = (ddS zs).length :=
  (nodup_perm nd (dd_nodup zs) fun z => (hm z).trans dd_mem.symm).length_eq
end PV

set_option Elab.async false
set_option linter.all false
set_option maxRecDepth 100000
set_option maxHeartbeats 3200000
/-! sets of texts: set(xs), sorted(set(xs)), len(set(xs)) -/
namespace PV
open PySem PySem.Spec PyProof.Rows L2 PySem.Froz
/-- at a: a set of the texts l -/
def TxSet (P : Program) (w : World) (h : Heap) (a : Addr) (l : List Str) : Prop :=
  ∃ D : SD, h.get? a = some (sObj "set" D) ∧ TxOk P w D l ∧ Ris D.2.2.place.toList ∧ (w.params.followText "set-order" = true ∨ D.2.2.led = true) ∧ l.Nodup
section
variable {P : Program} {w : World} {A : Around} {E : Value → Shared → Prop} {s : Shared}
theorem TxSet.keep {h h' : Heap} {a : Addr} {l : List Str} (R : TxSet P w h a l) (k : ∀ o, h.get? a = some o → h'.get? a = some o) : TxSet P w h' a l := by
  obtain ⟨D, e, r⟩ := R
  exact ⟨D, k _ e, r⟩
theorem tail_ris {ep : Nat} {es : Array (Int × Value)} {t : SetTable} {b : Bool} (r : Ris t.place.toList) : Ris (tailTx ep es t b).2.2.place.toList ∧ (tailTx ep es t b).2.2.led = t.led := by
  unfold tailTx
  split
  · exact ⟨relayAll_ris _ _ _, relayAll_led _ _ _⟩
  · exact ⟨r, rfl⟩
theorem add_ris {h : Int} {v : Value} {D : SD} (r : Ris D.2.2.place.toList) : Ris (addTx h v D).2.2.place.toList ∧ (addTx h v D).2.2.led = D.2.2.led := by
  have r1 := layNew_ris D.2.2 D.1 h v r
  have l1 := layNew_led D.2.2 D.1 h v
  unfold addTx
  split
  · obtain ⟨h1, h2⟩ := tail_ris (ep := D.2.1) (es := (layNew D.2.2 D.1 h v).1) (t := { (layNew D.2.2 D.1 h v).2.1 with plain := false }) (b := (layNew D.2.2 D.1 h v).2.2.1) r1
    exact ⟨h1, h2.trans l1⟩
  · obtain ⟨h1, h2⟩ := tail_ris (ep := D.2.1) (es := (layNew D.2.2 D.1 h v).1) (b := (layNew D.2.2 D.1 h v).2.2.1) r1
    exact ⟨h1, h2.trans l1⟩
/-- an item that is there -/
theorem add_old {a : Addr} {T : String} {D : SD} {l : List Str} {k : Str} {u : Tok} {Q : Bool → Shared → Prop} (ho : s.heap.get? a = some (sObj T D)) (F : TxOk P w D l) (hk : k ∈ l) (hb : l.length < scanBound)
    (h : Q false s) : wpAny (model P w) A (setAddHashed a (.str k u) (hashStr w k)) Q E s := by
  obtain ⟨es, ep, t⟩ := D
  have hd : (sObj T (es, ep, t)).data = .set es ep t := rfl
  have hf : t.fits es.size = true := F.fit
  have hel : ElemsOf (strKind P w) es.toList := F.el
  have hsz : es.size = l.length := F.sz
  have hb0 : es.size < scanBound := by omega
  have hkey : (strKind P w).is k (.str k u) = true := is_str k u
  obtain ⟨e, he, hq⟩ := (F.mem k).mp hk
  cases hr : List.findIdx? (fun e => (strKind P w).is k e.2) es.toList with
  | none =>
    rw [List.findIdx?_eq_none_iff] at hr
    have := hr e he
    rw [hq] at this
    cases this
  | some j =>
    unfold setAddHashed setAddHashedIn
    refine wpAny_holding (wpAny_bind (wpAny_setState_of ho hd hf ?_))
    dsimp only
    rw [byScan_of rfl hb0 hel]
    simp only [↓reduceIte]
    unfold setAddByScan
    refine wpAny_bind ?_
    refine wpAny_bind (wpAny_rule ?_)
    refine wpAny_bind (wpAny_setScan_of (knd := strKind P w) (k := k) hkey ho hd hf hel ?_)
    rw [hr]
    dsimp only
    exact wpAny_pure (wpAny_pure h)
theorem set_add_txt {a : Addr} {l : List Str} {k : Str} {u : Tok} {Q : Bool → Shared → Prop} (R : TxSet P w s.heap a l) (hb : l.length + 1 < scanBound)
    (h : ∀ b h' l', Heap.SameBut a s.heap h' → TxSet P w h' a l' → (k ∈ l → l' = l) → (k ∉ l → l' = k :: l) → Q b { s with heap := h' }) : wpAny (model P w) A (setAddHashed a (.str k u) (hashStr w k)) Q E s := by
  obtain ⟨D, ho, F, r, ld, nd⟩ := R
  by_cases hk : k ∈ l
  · refine add_old ho F hk (by omega) ?_
    exact h false s.heap l (Heap.SameBut.refl _ _) ⟨D, ho, F, r, ld, nd⟩ (fun _ => rfl) (fun z => absurd hk z)
  · refine add_x ho F hk hb ?_
    obtain ⟨r1, l1⟩ := add_ris (h := hashStr w k) (v := .str k u) r
    exact h true _ (k :: l) (Heap.SameBut.update ..) ⟨_, get_upd _ ho rfl, add_ok u F, r1, by rw [l1]; exact ld, List.nodup_cons.mpr ⟨hk, nd⟩⟩ (fun z => absurd z hk) (fun _ => rfl)
abbrev newSet (w : World) : Obj := { cls := .type "set", dict := none, data := .set #[] 0 (.fresh 0 0 (!w.params.followText "set-order")) }
theorem newSet_ok {h : Heap} {a : Addr} (ho : h.get? a = some (newSet w)) : TxSet P w h a [] := by
  refine ⟨(#[], 0, .fresh 0 0 (!w.params.followText "set-order")), ho, TxOk.nil (by cases w.params.followText "set-order" <;> decide +kernel), List.Pairwise.nil, ?_, List.nodup_nil⟩
  show _ ∨ (!w.params.followText "set-order") = true
  cases w.params.followText "set-order"
  · exact .inr rfl
  · exact .inl rfl
/-- set.update's loop, of texts -/
theorem upd_loop {I : Addr} {fp wr : List Addr} {G : Array GenState → Array GenState → Prop} {n : Nat} {Pv : Nat → Value → Prop} {St : Nat → Shared → Prop} {R : Result → Shared → Prop}
    (W : WalksS P w A.in1 I fp wr G n Pv St) (a : Addr) (ha : a ∉ fp) (xs : List Str) (hn : n = xs.length) (hb : xs.length + 1 < scanBound) (hval : ∀ i v, Pv i v → ∃ t z, v = .str z t ∧ xs[i]? = some z) :
    ∀ (k i : Nat) (s : Shared), n - i = k → i ≤ n → St i s → (∃ l, TxSet P w s.heap a l ∧ (∀ z, z ∈ l ↔ z ∈ xs.take i) ∧ l.length ≤ i) →
      (∀ s' l, Moved (a :: wr) G s s' → TxSet P w s'.heap a l → (∀ z, z ∈ l ↔ z ∈ xs) → l.length ≤ xs.length → R (.ok (.ret .none)) s') →
      codeAny (model P w) A (.builtin "set.update.loop" ⟨[.ref a, .ref I], []⟩) R s := by
  have haw : a ∉ wr := fun h => ha (W.sub _ h)
  have more : ∀ b ∈ wr, b ∈ a :: wr := fun b hb => List.mem_cons_of_mem _ hb
  intro k
  induction k with
  | zero =>
    rintro i s hk hi hst ⟨l, hl, hm, hc⟩ fin
    have ein : i = n := by omega
    subst ein
    refine codeAny_builtin PyProof.Rows.F.entry_set_update_loop ?_
    rw [Around.under_plainId PyProof.Rows.F.plain_set_update_loop _]
    show wpAny _ A.in1 (pyNext (.ref I) >>= _) _ _ s
    refine wpAny_bind (W.done s _ _ hst fun s' mv => ?_)
    show wpAny _ A.in1 (ret Value.none) _ _ s'
    refine wpAny_pure (fin s' l (mv.mono more) (hl.keep fun o e => mv.heap a o haw e) (fun z => ?_) (by omega))
    rw [hm z, hn, List.take_length]
  | succ k ih =>
    rintro i s hk hi hst ⟨l, hl, hm, hc⟩ fin
    have lt : i < n := by omega
    refine codeAny_builtin PyProof.Rows.F.entry_set_update_loop ?_
    rw [Around.under_plainId PyProof.Rows.F.plain_set_update_loop _]
    show wpAny _ A.in1 (pyNext (.ref I) >>= _) _ _ s
    refine wpAny_bind (W.item i s _ _ lt hst fun v s' hP hst' mv => ?_)
    obtain ⟨t, z, rfl, hz⟩ := hval i v hP
    have hl' : TxSet P w s'.heap a l := hl.keep fun o e => mv.heap a o haw e
    show wpAny _ A.in1 (holding [Value.str z t] (setAdd a (.str z t)) >>= _) _ _ s'
    refine wpAny_bind (wpAny_holding ?_)
    unfold setAdd
    refine wpAny_holding (wpAny_bind ((PySem.strKind P w).pyHash (k := z) (is_str z t) ?_))
    refine set_add_txt (s := { s' with toks := s'.toks + 1 }) hl' (by omega) fun b h' l' sb hl2 c1 c2 => ?_
    have tk : xs.take (i + 1) = xs.take i ++ [z] := by rw [List.take_succ, hz] <;> rfl
    have nx : (∀ y, y ∈ l' ↔ y ∈ xs.take (i + 1)) ∧ l'.length ≤ i + 1 := by
      rw [tk]
      by_cases c : z ∈ l
      · rw [c1 c]
        refine ⟨fun y => ⟨fun q => List.mem_append_left _ ((hm y).mp q), fun q => ?_⟩, by omega⟩
        rcases List.mem_append.mp q with q | q
        · exact (hm y).mpr q
        · rw [List.mem_singleton.mp q]; exact c
      · rw [c2 c]
        refine ⟨fun y => ?_, by rw [List.length_cons]; omega⟩
        rw [List.mem_cons, List.mem_append, List.mem_singleton, hm y]
        exact Or.comm
    refine wpAny_pure ⟨plainId_quiet PyProof.Rows.F.plain_set_update_loop _, ih (i + 1) _ (by omega) lt (W.frame _ s' _ _ hst' (Nat.le_succ _) fun b hb o e => ?_) ⟨l', hl2, nx.1, nx.2⟩ fun s2 l2 mv2 hl3 m3 c3 => ?_⟩
    · rw [sb.2 b (fun q : b = a => ha (q ▸ hb))]; exact e
    · refine fin s2 l2 (Moved.trans W.gtrans ((mv.mono more).then_heap (Nat.le_succ _) fun b o hb e => ?_) mv2) hl3 m3 c3
      rw [sb.2 b (fun q : b = a => hb (by rw [q]; exact List.mem_cons_self))]; exact e
theorem strs_get : ∀ {us : List Value} {xs : List Str}, StrsAre us xs → ∀ (i : Nat) (v : Value), us[i]? = some v → ∃ t z, v = .str z t ∧ xs[i]? = some z
  | _, _, .nil, i, v, h => by simp at h
  | _, _, .cons n t hr, 0, v, h => by simp at h; exact ⟨t, n, h.symm, rfl⟩
  | _, _, .cons n t hr, i + 1, v, h => by
    rw [List.getElem?_cons_succ] at h
    obtain ⟨t', z, e, q⟩ := strs_get hr i v h
    exact ⟨t', z, e, by rw [List.getElem?_cons_succ]; exact q⟩
/-- set(xs) -/
theorem call_set_txts {l : Addr} {items : Array Value} {xs : List Str} {Q : Value → Shared → Prop} (hh : A.handled = none) (hl : s.heap.IsList l items) (hi : StrsAre items.toList xs) (hb : xs.length + 1 < scanBound)
    (h : ∀ (h' : Heap) (tk : Nat) L, TxSet P w h' s.heap.objs.size L → (∀ z, z ∈ L ↔ z ∈ xs) → L.length ≤ xs.length → (∀ b o, s.heap.get? b = some o → h'.get? b = some o) → Q (.ref s.heap.objs.size) { s with heap := h', toks := tk }) :
    wpAny (model P w) A (call (.type "set") [.ref l]) Q E s := by
  obtain ⟨c, tl, hmro⟩ := PySem.F.called_set.mro
  have made := PySem.F.called_set.made
  have sub := PySem.F.called_set.sub
  refine wpAny_call (codeAny_of_tree ?_)
  show wpAny _ _ (callAny (.type "set") _) _ _ _
  refine wpAny_pure ⟨Code.quiet_builtin _ (by decide +kernel), codeAny_builtin PySem.F.entry_type_call ?_⟩
  rw [Around.under_plain (weight_type_call_type "set" [.ref l] []) rfl]
  have q1 := PySem.F.called_set.notType
  have q2 := PySem.F.called_set.canCreate
  have q3 := PySem.F.typeCall_set_1 (.ref l)
  repeat (any_goals (first | assumption | wp_step))
  refine codeAny_mono (code_set_led1 (.ref l) (E := E) (Q₁ := fun obj s₁ => obj = .ref s.heap.objs.size ∧ s₁ = { s with heap := s.heap.push (newSet w) }) ⟨rfl, rfl⟩) fun r s₁ hr => ?_
  cases r with
  | error e => exact hr
  | ok fl =>
    cases fl with
    | ret obj =>
      obtain ⟨rfl, rfl⟩ := hr
      have hS : (s.heap.push (newSet w)).get? s.heap.objs.size = some (newSet w) := Heap.get?_push_size _ rfl
      have hT : Shared.TypeIs { s with heap := s.heap.push (newSet w) } (.ref s.heap.objs.size) "set" := ⟨_, hS, rfl⟩
      have hli := PySem.F.called_set.init.lookup
      have hbi := PySem.F.called_set.init.bind (.ref s.heap.objs.size)
      repeat (any_goals (first | assumption | wp_step))
      refine codeAny_mono (codeAny_call_builtin (R := wants (fun r s₂ => r = .none ∧ ∃ h' tk L, s₂ = { s with heap := h', toks := tk } ∧ TxSet P w h' s.heap.objs.size L ∧ (∀ z, z ∈ L ↔ z ∈ xs) ∧ L.length ≤ xs.length ∧ (∀ b o, s.heap.get? b = some o → h'.get? b = some o)) E)
        PySem.F.called_set.init.plain PySem.F.entry_set_init (check_set_init_1 hT ?_)) fun r₂ s₂ hr₂ => ?_
      · obtain ⟨ol, hol, hcl, nl, hdl⟩ := hl
        obtain ⟨ocls, odict, odata, oslots⟩ := ol
        simp only at hcl hdl
        subst hcl; subst hdl
        have hol' : (s.heap.push (newSet w)).get? l = some { cls := .type "list", dict := odict, data := .seq items nl, slots := oslots } := Heap.get?_push_of_some _ hol
        have n1 := PySem.F.sub_list_set
        have n2 := PySem.F.sub_list_frozenset
        have n3 : (Value.type "list" == Value.type "dict") = false := by decide
        have hl1 : (s.heap.push (newSet w)).IsList l items := ⟨_, hol', rfl, nl, rfl⟩
        unfold Builtin.«set.__init__» noKeywords Builtin.Frozenset.updateFrom
        generalize hPI : pyIter = PI
        wp_walk
        subst hPI
        refine wpAny_pyIter_list hl1 ?_
        refine wpAny_bind (wpAny_runValue ?_)
        have lS : l < s.heap.objs.size := Heap.lt_size hol
        have h3 : A.in1.in1.in1.handled = none := by simp [hh]
        have nI : l ≠ (s.heap.push (newSet w)).objs.size := by rw [Heap.size_push]; exact Nat.ne_of_lt (Nat.lt_succ_of_lt lS)
        have nS : s.heap.objs.size ∉ [(s.heap.push (newSet w)).objs.size, l] := by
          rw [Heap.size_push]
          simp only [List.mem_cons, List.not_mem_nil, or_false, not_or]
          exact ⟨Nat.ne_of_lt (Nat.lt_succ_self _), Nat.ne_of_gt lS⟩
        have hsz : items.size = xs.length := by rw [← StrsAre.len_eq hi, Array.length_toList]
        have hval : ∀ (i : Nat) (v : Value), items[i]? = some v → ∃ t z, v = .str z t ∧ xs[i]? = some z := fun i v hv => strs_get hi i v (by rw [Array.getElem?_toList]; exact hv)
        refine upd_loop ((Walks.list h3 _ l nI items).toS) s.heap.objs.size nS xs hsz hb hval (items.size - 0) 0 _ (by omega) (Nat.zero_le _) ⟨⟨_, Heap.get?_push_size _ rfl, rfl, rfl⟩, (hl1.push _)⟩ ⟨[], newSet_ok (Heap.get?_push_of_some _ hS), by simp, Nat.le_refl _⟩ ?_
        intro s' L mv hL hm hc
        obtain ⟨h', g', d', tk', os'⟩ := s'
        have eg : g' = s.gens := mv.gens
        have ed : d' = s.drawn := mv.drawn
        have eo : os' = s.os := mv.os
        subst eg; subst ed; subst eo
        show wpAny _ _ _ _ _ _
        refine wpAny_pure ?_
        show wpAny _ _ (ret Value.none) _ _ _
        refine wpAny_pure ⟨rfl, h', tk', L, rfl, hL, hm, hc, fun b o e => ?_⟩
        have hb0 := Heap.lt_size e
        have hb1 : b ≠ s.heap.objs.size := Nat.ne_of_lt hb0
        have hb2 : b ≠ (s.heap.push (newSet w)).objs.size := by rw [Heap.size_push]; exact Nat.ne_of_lt (Nat.lt_succ_of_lt hb0)
        exact mv.heap b o (by simp only [List.mem_cons, List.not_mem_nil, or_false, not_or]; exact ⟨hb1, hb2⟩) (Heap.get?_push_of_some _ (Heap.get?_push_of_some _ e))
      · cases r₂ with
        | error e => exact hr₂
        | ok fl₂ =>
          cases fl₂ with
          | ret r =>
            obtain ⟨rfl, h', tk, L, rfl, hL, hm, hc, hk⟩ := hr₂
            repeat (any_goals (first | assumption | wp_step))
            exact h _ _ L hL hm hc hk
          | _ => exact hr₂.elim
    | _ => exact hr.elim
theorem perm_sub : ∀ {L M : List Str}, L.Nodup → (∀ z ∈ L, z ∈ M) → M.length = L.length → M.Perm L
  | [], M, _, _, h => by rw [List.length_eq_zero_iff.mp h]
  | x :: L, M, nd, sub, h => by
    have hx := sub x List.mem_cons_self
    have nd' := List.nodup_cons.mp nd
    have p := List.perm_cons_erase hx
    have hl := p.length_eq
    rw [List.length_cons] at h hl
    refine p.trans (List.Perm.cons x (perm_sub nd'.2 (fun z hz => ?_) (by omega)))
    exact (List.mem_erase_of_ne (show z ≠ x from fun e => nd'.1 (e ▸ hz))).mpr (sub z (List.mem_cons_of_mem _ hz))
theorem strs_of : ∀ (l : List Value), (∀ v ∈ l, ∃ k tk, v = Value.str k tk) → StrsAre l (l.map strOf)
  | [], _ => .nil
  | v :: r, h => by
    obtain ⟨k, tk, rfl⟩ := h v List.mem_cons_self
    exact .cons k tk (strs_of r fun v hv => h v (List.mem_cons_of_mem _ hv))
/-- sorted(s), s a set of texts -/
theorem sorted_txts {a : Addr} {L : List Str} {Q : Value → Shared → Prop} (R : TxSet P w s.heap a L) (hh : A.handled = none) (h64 : L.length < 64)
    (hQ : ∀ s' p (out : Array Value) (c : Nat) (ys : List Str), (∀ b o, s.heap.get? b = some o → s'.heap.get? b = some o) → s'.gens = s.gens → s'.os = s.os → s.heap.objs.size ≤ p →
      s'.heap.get? p = some (seqObj "list" out c) → StrsAre out.toList ys → ys.Perm L → sortedS ys = true → Q (.ref p) s') :
    wpAny (model P w) A (call (.builtin "sorted") [.ref a]) Q E s := by
  obtain ⟨⟨es, ep, t⟩, ho, F, hr, ld, nd⟩ := R
  have hsz : es.size = L.length := F.sz
  have hel : ElemsOf (strKind P w) es.toList := F.el
  have hmem : ∀ k : Str, k ∈ L ↔ ∃ e ∈ es.toList, (strKind P w).is k e.2 = true := F.mem
  have istr : ∀ {k : Str} {v : Value}, (strKind P w).is k v = true → ∃ tk, v = .str k tk := by
    intro k v h
    have h' : Value.isStrOf k v = true := h
    cases v <;> simp [Value.isStrOf] at h'
    exact ⟨_, by rw [h']⟩
  refine Calls.call_function_entry kind_sorted plain_sorted entry_sorted (args_sorted1 _) ?_
  unfold Builtin.«sorted»
  refine wpAny_bind (m := checkCount "sorted" 1 1 _) (wpAny_pure ?_)
  refine wpAny_bind (collect_set (A := A.in1) hh ⟨_, ho, rfl, rfl⟩ F.fit (by unfold scanBound; show es.size < _; omega) hr ld fun s1 vs k1 hz g1 o1 pm => ?_)
  have hvl : vs.length = L.length := by rw [pm.length_eq, List.length_map, Array.length_toList]; exact hsz
  have hall : ∀ v ∈ vs, ∃ k tk, v = Value.str k tk := fun v hv => by
    obtain ⟨e, he, q⟩ := List.mem_map.mp (pm.mem_iff.mp hv)
    obtain ⟨⟨k, hk, _⟩, _⟩ := hel e he
    obtain ⟨tk, e2⟩ := istr hk
    exact ⟨k, tk, by rw [← q]; exact e2⟩
  have hI := strs_of vs hall
  have sub : ∀ k ∈ L, k ∈ vs.map strOf := fun k hk => by
    obtain ⟨e, he, q⟩ := (hmem k).mp hk
    obtain ⟨tk, e2⟩ := istr q
    exact List.mem_map.mpr ⟨e.2, pm.mem_iff.mpr (List.mem_map.mpr ⟨e, he, rfl⟩), by rw [e2]; rfl⟩
  have pk : (vs.map strOf).Perm L := perm_sub nd sub (by rw [List.length_map, hvl])
  refine wpAny_bind (wpAny_newList ?_ (by rw [hvl, sizeLine_eq]; omega))
  have hoL : (s1.heap.push (seqObj "list" vs.toArray 0)).get? s1.heap.objs.size = some (seqObj "list" vs.toArray 0) := Heap.get?_push_size _ rfl
  refine wpAny_bind (wpAny_holding (wpAny_call_entry slot_list_sort ⟨_, hoL, rfl⟩ entry_list_sort (list_sort_treeK strKind_oneLt hoL hI.keysOf (fun v₁ v₂ rest e => keyKind_strs (by rw [← e]; exact hI)) (by rw [hvl]; exact h64) fun st' hp hs => ⟨_, rfl, ?_⟩) (args_list_sort _)))
  obtain ⟨ys, a1, a2, a3⟩ := sorted_out_str hI hp hs
  obtain ⟨c, hc⟩ := sortedHeap_at (vs := vs) (out := (arrOf st').map (·.2)) hoL
  refine wpAny_pure ⟨_, rfl, hQ _ s1.heap.objs.size _ c ys (fun b u e => ?_) g1 o1 hz hc a1 (a2.trans pk) a3⟩
  have q := k1 b u e
  have hlt := Heap.lt_size q
  show (sortedHeap (s1.heap.push (seqObj "list" vs.toArray 0)) s1.heap.objs.size vs _).get? b = some u
  rw [sortedHeap_old (Nat.ne_of_lt hlt) (by rw [size_push']; exact Nat.lt_succ_of_lt hlt)]
  exact Heap.get?_push_of_some _ q
end
/-- at a: a set of the texts L -/
def TxSetO (P : Program) (w : World) (a : Addr) (L : List Str) : HO := .ext fun h => TxSet P w h a L
theorem txSetO_ok {P : Program} {w : World} {H : Hp} {h : Heap} {a : Addr} {L : List Str} (R : TxSet P w h a L) : ObjOk P w H h a (TxSetO P w a L) := by
  obtain ⟨D, ho, r⟩ := id R
  exact ⟨R, ⟨_, ho⟩, fun h1 h2 p k => by
    obtain ⟨D', ho', r'⟩ := p
    exact ⟨D', k _ ho', r'⟩⟩
section
variable {X : Cx}
theorem cr_setTx (hc : X.calm = true) : CallR X (.type "set") (fun vs H Q => ∃ (l : Addr) (xs : List Str), vs = [V.ref l] ∧ SqL X.K H l (xs.map V.str) ∧ xs.length < 4000 ∧
    ∀ a L, H a = none → (∀ z, z ∈ L ↔ z ∈ xs) → L.Nodup → L.length ≤ xs.length → Q (.ref a) (upd H a (TxSetO X.prog X.w a L))) := by
  intro pins s σ H vs us Q I r h
  obtain ⟨l, xs, rfl, hl, hb, q⟩ := h
  rw [Vals.ref1 r]
  obtain ⟨its, rv, pl, hz⟩ := I.list hl
  have hn : H s.heap.objs.size = none := I.hok.fresh (Nat.le_refl _)
  refine call_set_txts (P := X.prog) (w := X.w) (xs := xs) (I.ok.hd hc) pl.isList (by simpa using rv.strs) (by unfold scanBound; omega) fun h' tk L R hm hcn k => ?_
  have nd : L.Nodup := by
    obtain ⟨D, _, _, _, _, nd⟩ := R
    exact nd
  exact ⟨.ref s.heap.objs.size, upd H s.heap.objs.size (TxSetO X.prog X.w s.heap.objs.size L), I.laid (t' := tk) k (Nat.le_refl _) (txSetO_ok R), rfl, q _ L hn hm nd hcn⟩
theorem cr_sortedTx (hc : X.calm = true) : CallR X (.builtin "sorted") (fun vs H Q => ∃ (a : Addr) (L : List Str), vs = [V.ref a] ∧ H a = some (TxSetO X.prog X.w a L) ∧ L.length < 64 ∧
    ∀ (ys : List Str) (p : Addr), ys.Perm L → sortedS ys = true → H p = none → Q (.ref p) (upd H p (.lst (ys.map V.str)))) := by
  intro pins s σ H vs us Q I r h
  obtain ⟨a, L, rfl, ha, hf, q⟩ := h
  have R : TxSet X.prog X.w s.heap a L := (I.hok a _ ha).1
  rw [Vals.ref1 r]
  refine sorted_txts R (I.ok.hd hc) hf fun s' p out c ys k g o hp hg hS pm st => ?_
  have hlen : (ys.map V.str).length ≤ sizeLine := by rw [List.length_map, pm.length_eq, sizeLine_eq]; omega
  have hn : H p = none := I.hok.fresh hp
  have J : Inv X pins σ (upd H p (.lst (ys.map V.str))) { s with heap := s'.heap, gens := s'.gens, drawn := s'.drawn, toks := s'.toks } :=
    I.call (ch := []) (Un.laid k hp hn) (I.hok.laid k hp ⟨hlen, out.toList, c, vals_of_strs hS, hg⟩) (by rw [g]; exact I.bare) (fun _ z => nomatch z)
  have e : s' = { s with heap := s'.heap, gens := s'.gens, drawn := s'.drawn, toks := s'.toks } := by
    cases s'
    cases s
    cases o
    rfl
  rw [e]
  exact ⟨.ref p, _, J, rfl, q ys p pm st hn⟩
theorem cr_lenTx : CallR X (.builtin "len") (fun vs H Q => ∃ (a : Addr) (L : List Str), vs = [V.ref a] ∧ H a = some (TxSetO X.prog X.w a L) ∧ L.length < 10000 ∧ Q (.int L.length) H) := by
  intro pins s σ H vs us Q I r h
  obtain ⟨a, L, rfl, ha, hf, q⟩ := h
  obtain ⟨⟨es, ep, t⟩, ho, F, hr, ld, nd⟩ : TxSet X.prog X.w s.heap a L := (I.hok a _ ha).1
  have hsz : es.size = L.length := F.sz
  rw [Vals.ref1 r]
  exact call_len_set ho ⟨rfl, rfl, rfl⟩ rfl F.fit (by show (es.size : Int) < 2 ^ 63; omega) ⟨.int L.length, H, I.tok _, ⟨_, by rw [← hsz]⟩, q⟩
end
end PV

set_option Elab.async false
set_option linter.all false
set_option maxRecDepth 100000
set_option maxHeartbeats 1000000
namespace PV
open PySem PySem.Spec PyProof.Rows L2

def RS.nox (r : RS) : RS := match r with
  | .exc _ _ _ => .bad
  | r => r
/-- x op= y, of ints -/
def augD : BO → D → D → Option D
  | .add, .int i, .int j => some (.int (i + j))
  | .sub, .int i, .int j => some (.int (i - j))
  | _, _, _ => none
/-- an attribute set -/
def putD (f : String) (v : D) : List (String × D) → List (String × D)
  | [] => [(f, v)]
  | (g, x) :: r => if g = f then (g, v) :: r else (g, x) :: putD f v r
mutual
def evS (C : Cn) (Φ : Fe) : St' → DE → S → RS
  | .expr e, env, st => (evE C Φ e env st).st env fun _ s => .ok (.nx env) s
  | .set i e, env, st => (evE C Φ e env st).st env fun d s => .ok (.nx (env.set i (.val d))) s
  | .par i j a b, env, st => (evE C Φ a env st).st env fun x s1 => (evE C Φ b env s1).st env fun y s2 => .ok (.nx ((env.set i (.val x)).set j (.val y))) s2
  | .asg t e, env, st => (evE C Φ e env st).st env fun d s => (match bindT t d env with
    | some env' => .ok (.nx env') s
    | none => .bad)
  | .putL o i e, env, st => (evE C Φ e env st).st env fun d s1 => (evE C Φ o env s1).st env fun l s2 => (evE C Φ i env s2).st env fun k s3 => (match l, k with
    | .obj n, .int k => (match s3[n]? with
      | some (.lst xs) => (match ixN xs.length k with
        | some j => .ok (.nx env) (s3.set n (.lst (xs.set j d)))
        | none => .bad)
      | _ => .bad)
    | _, _ => .bad)
  | .ownNew i es, env, st => (evEs C Φ es env st).st env fun ds s => if ds.length ≤ sizeLine then .ok (.nx (env.set i (.own ds))) s else .bad
  | .ownApp i e, env, st => (match env[i]? with
    | some (.own xs) => (evE C Φ e env st).st env fun d s => if xs.length < sizeLine then .ok (.nx (env.set i (.own (xs ++ [d])))) s else .bad
    | _ => .bad)
  | .ownAdd i a b, env, st => (bor a env st (evE C Φ a env st)).st env fun x s1 => (bor b env s1 (evE C Φ b env s1)).st env fun y s2 => (match resD s2 x, resD s2 y with
    | .lst xs, .lst ys => if xs.length + ys.length ≤ sizeLine then .ok (.nx (env.set i (.own (xs ++ ys)))) s2 else .bad
    | _, _ => .bad)
  | .appL o e, env, st => (evE C Φ o env st).st env fun l s1 => (match l with
    | .obj n => (match s1[n]? with
      | some (.lst _) => (evE C Φ e env s1).st env fun d s2 => (match s2[n]? with
        | some (.lst xs) => if xs.length < sizeLine then .ok (.nx env) (s2.set n (.lst (xs ++ [d]))) else .bad
        | _ => .bad)
      | _ => .bad)
    | _ => .bad)
  | .setF i f e, env, st => (evE C Φ e env st).st env fun d s => (match env[i]? with
    | some (.self c fs) => if fs.length < 900 then .ok (.nx (env.set i (.self c (putD f d fs)))) s else .bad
    | _ => .bad)
  | .freeze i, env, st => (match env[i]? with
    | some (.own xs) => .ok (.nx (env.set i (.val (.lst xs)))) st
    | _ => .bad)
  | .aug i op e, env, st => (match env[i]? with
    | some (.val x) => (evE C Φ e env st).st env fun y s => (match augD op x y with
      | some z => .ok (.nx (env.set i (.val z))) s
      | none => .bad)
    | _ => .bad)
  | .ret e, env, st => (evE C Φ e env st).st env fun d s => .ok (.rt d) s
  | .retN, _, st => .ok (.rt .non) st
  | .ite c a b, env, st => (evT C Φ c env st).st env fun k s => if k = true then evSs C Φ a env s else evSs C Φ b env s
  | .whl c b, env, st => whileS (fun env s => evT C Φ c env s) (fun env s => evSs C Φ b env s) wfuel env st
  | .for_ t it b, env, st => (evE C Φ it env st).st env fun x s1 => (match itemsD [] x with
    | some xs => loopS (fun d env s => match bindT t d env with
      | some env' => evSs C Φ b env' s
      | none => .bad) xs env s1
    | none => .bad)
  | .forI t it b, env, st => (evI C Φ it env st).st env fun xs s1 => loopS (fun d env s => match bindT t d env with
    | some env' => evSs C Φ b env' s
    | none => .bad) xs env s1
  | .ownExt i e, env, st => (match env[i]? with
    | some (.own xs) => (evE C Φ e env st).st env fun d s => (match d with
      | .lst ys => if xs.length + ys.length ≤ sizeLine then .ok (.nx (env.set i (.own (xs ++ ys)))) s else .bad
      | _ => .bad)
    | _ => .bad)
  | .forR i n b, env, st => (evE C Φ n env st).st env fun x s1 => (match x with
    | .int k => if -(2 ^ 62) ≤ k ∧ k < 2 ^ 62 then loopS (fun d env s => evSs C Φ b (env.set i (.val d)) s) ((List.range k.toNat).map fun (n : Nat) => D.int (n : Int)) env s1 else .bad
    | _ => .bad)
  | .brk, env, st => .ok (.bk env) st
  | .cont, env, st => .ok (.ct env) st
  | .pass, env, st => .ok (.nx env) st
  | .raise c es, env, st => (match es with
    | .nil => if C.xn c = true then .exc ⟨c, []⟩ env st else .bad
    | _ => .bad)
  | .tryx b c _ su, env, st => (match C.sub c c with
    | none => .bad
    | some _ => (match evSs C Φ b env st with
      | .exc x env' s' => (match C.sub x.cls c with
        | some true => (evSs C (fun _ _ _ => .bad) su env' s').nox
        | some false => .exc x env' s'
        | none => .bad)
      | r => r))
def evSs (C : Cn) (Φ : Fe) : Ss → DE → S → RS
  | .nil, env, st => .ok (.nx env) st
  | .cons s r, env, st => (evS C Φ s env st).sq fun env' s' => evSs C Φ r env' s'
end

def runB (C : Cn) (Φ : Fe) (d : Df) (args : List D) (st : S) : R D :=
  if args.length = d.np then (match evSs C Φ d.body (args.map .val ++ List.replicate (d.n - d.np) .no) st with
    | .ok (.nx _) s => .ok .non s
    | .ok (.rt v) s => .ok v s
    | .exc x _ s => .exc x s
    | _ => .bad)
  else .bad
/-- a class's call: __init__ with self (slot 0) being made; then it is told as it is -/
def runI (C : Cn) (Φ : Fe) (c : String) (d : Df) (args : List D) (st : S) : R D :=
  if args.length + 1 = d.np then (match evSs C Φ d.body (.self c [] :: (args.map .val ++ List.replicate (d.n - d.np) .no)) st with
    | .ok (.nx env) s => (match env[0]? with
      | some (Sl.self c' fs) => .ok (.ins c' fs) s
      | _ => .bad)
    | .exc x _ s => .exc x s
    | _ => .bad)
  else .bad
abbrev Tbl := String → Option Df
def callN (C : Cn) (t : Tbl) : Nat → Fe
  | 0, _, _, _ => .bad
  | n + 1, f, ds, st => match t f with
    | some d => if d.va = true then (if ds.length ≤ sizeLine then runB C (callN C t n) d (ds.take (d.np - 1) ++ [.tup (ds.drop (d.np - 1))]) st else .bad)
      else if ds.length ≤ d.np ∧ d.np ≤ ds.length + d.dfl.length then runB C (callN C t n) d (ds ++ d.dfl.drop (d.dfl.length + ds.length - d.np)) st else .bad
    | none => match C.ctor f with
      | some d => if ds.length + 1 ≤ d.np ∧ d.np ≤ ds.length + 1 + d.dfl.length then runI C (callN C t n) f d (ds ++ d.dfl.drop (d.dfl.length + (ds.length + 1) - d.np)) st else .bad
      | none => .bad

/-! ### the text is the program's -/
def opOf : BO → Operator
  | .add => .Add
  | .sub => .Sub
  | .mul => .Mult
  | .fdiv => .FloorDiv
  | .mod => .Mod
  | .pow => .Pow
def coOf : CO → CmpOp
  | .eq => .Eq
  | .ne => .NotEq
  | .lt => .Lt
  | .le => .LtE
  | .gt => .Gt
  | .ge => .GtE
  | .in_ => .In
  | .nin => .NotIn
def opB : BO → Operator → Bool
  | .add, .Add => true
  | .sub, .Sub => true
  | .mul, .Mult => true
  | .fdiv, .FloorDiv => true
  | .mod, .Mod => true
  | .pow, .Pow => true
  | _, _ => false
theorem opB_ok {a : BO} {b : Operator} (h : opB a b = true) : b = opOf a := by cases a <;> cases b <;> first | rfl | cases h
def coB : CO → CmpOp → Bool
  | .eq, .Eq => true
  | .ne, .NotEq => true
  | .lt, .Lt => true
  | .le, .LtE => true
  | .gt, .Gt => true
  | .ge, .GtE => true
  | .in_, .In => true
  | .nin, .NotIn => true
  | _, _ => false
theorem coB_ok {a : CO} {b : CmpOp} (h : coB a b = true) : b = coOf a := by cases a <;> cases b <;> first | rfl | cases h
def biNm : Bi → Str
  | .len => "len" | .abs => "abs" | .int => "int" | .str => "str" | .repr => "repr" | .tuple => "tuple" | .list => "list"
def tyNm : Ty → String
  | .int => "int" | .bool => "bool" | .str => "str" | .tuple => "tuple" | .list => "list" | .dict => "dict" | .own c => c
def tyB : Ty → Bool
  | .own _ => false
  | _ => true
def isLoc : Option NameKind → Bool
  | some .local => true
  | _ => false
def isVis : Option NameKind → Bool
  | some .local => true
  | some .cell => true
  | some .free => true
  | _ => false
def isGl : Option NameKind → Bool
  | some .globalImplicit => true
  | _ => false
/-- where a text stands: names by slots, the scope, whether an exception is handled -/
structure Ck where
  N : List Str
  sc : Scope
  hot : Bool
  fs : List String
def Ck.vis (k : Ck) (i : Nat) (x : Str) : Bool := decide (k.N[i]? = some x) && isVis (k.sc.names.lookup x) && !(x == ("__debug__" : Str)) && !(x == ("__classdict__" : Str))
def Ck.loc (k : Ck) (i : Nat) (x : Str) : Bool := decide (k.N[i]? = some x) && isLoc (k.sc.names.lookup x)
def Ck.gl (k : Ck) (x : Str) : Bool := isGl (k.sc.names.lookup x) && !(x == ("__debug__" : Str)) && !(x == ("__name__" : Str))
mutual
/-- the names of a target, with their slots -/
def tgNs : Tg → Expr → Option (List (Str × Nat))
  | .nm i, .Name x _ => some [(x, i)]
  | .tup ts, .Tuple es _ _ => tgNsL ts es
  | _, _ => none
def tgNsL : Tgs → List Expr → Option (List (Str × Nat))
  | .nil, [] => some []
  | .cons (.nm i) ts, .Name x _ :: es => (match tgNsL ts es with
    | some r => some ((x, i) :: r)
    | none => none)
  | _, _ => none
end
/-- pairs are walked by a tuple of names -/
def itTg : I → Expr → Bool
  | .enum _, .Tuple .. => true
  | .enum _, _ => false
  | .zip _ _, .Tuple .. => true
  | .zip _ _, _ => false
  | _, _ => true
/-- the names of properties -/
def isPrp (f : String) : Bool := ["terms", "constant", "names", "body", "slide", "point", "rule", "version"].contains f
/-- no call of super -/
def nsup : Expr → Bool
  | .Name .. => true
  | .Attribute .. => true
  | .Subscript .. => true
  | _ => false
def nstar : Expr → Bool
  | .Starred .. => false
  | _ => true
mutual
def okE (k : Ck) : E → Expr → Bool
  | .var i, .Name x _ => k.vis i x
  | .int i, .Constant (.int j) _ _ => decide (i = j)
  | .str s, .Constant (.str x) _ _ => decide (x = Str.ofString s)
  | .bl b, .Constant (.bool c) _ _ => b == c
  | .non, .Constant .none _ _ => true
  | .glob s, .Name x _ => decide (x = Str.ofString s) && k.gl x
  | .tup es, .Tuple xs _ _ => okEs k es xs
  | .lst es, .List xs _ => okEs k es xs
  | .lstM es, .List xs _ => okEs k es xs
  | .dic0, .Dict [] [] _ => true
  | .bin op a b, .BinOp x o y _ => opB op o && okE k a x && okE k b y
  | .neg a, .UnaryOp .USub x _ => okE k a x
  | .not a, .UnaryOp .Not x _ => okE k a x
  | .and a b, .BoolOp .And (x :: y :: r) p => okE k a x && (match r with
    | [] => okE k b y
    | z :: r => okE k b (.BoolOp .And (y :: z :: r) p))
  | .or a b, .BoolOp .Or (x :: y :: r) p => okE k a x && (match r with
    | [] => okE k b y
    | z :: r => okE k b (.BoolOp .Or (y :: z :: r) p))
  | .cmp op a b, .Compare x [o] [y] _ => coB op o && okE k a x && okE k b y && (match y with
    | .Set .. => false
    | _ => true)
  | .chain o1 o2 a b c, .Compare x [p, q] [y, z] _ => coB o1 p && coB o2 q && okE k a x && okE k b y && okE k c z && (match z with
    | .Set .. => false
    | _ => true)
  | .isN a, .Compare x [.Is] [.Constant .none _ _] _ => okE k a x
  | .notN a, .Compare x [.IsNot] [.Constant .none _ _] _ => okE k a x
  | .ifx c a b, .IfExp t x y _ => okT k c t && okE k a x && okE k b y
  | .sub a i, .Subscript x y _ => okE k a x && okE k i y && (match y with
    | .Slice .. => false
    | _ => true)
  | .slice a lo hi, .Subscript x (.Slice l h none _) _ => okE k a x && okO k lo l && okO k hi h
  | .call f es, .Call (.Name x _) xs [] _ => !k.hot && decide (x = Str.ofString f) && k.gl x && k.fs.contains f && okEs k es xs
  | .bi b a, .Call (.Name x _) [y] [] _ => decide (x = biNm b) && k.gl x && okE k a y && nstar y
  | .isi a t, .Call (.Name x _) [y, .Name z _] [] _ => decide (x = ("isinstance" : Str)) && k.gl x && okE k a y && nstar y && decide (z = Str.ofString (tyNm t)) && k.gl z && tyB t
  | .comp el i it, .ListComp e [⟨.Name x _, y, [], a⟩] sc _ => decide (a = 0) && !k.hot && decide (k.N[i]? = some x) && okE k it y && blkC k.N k.sc sc [(x, i)] && isLoc (sc.names.lookup x) && okE ⟨k.N, sc, false, k.fs⟩ el e && (match y with
    | .Set .. => false
    | _ => true)
  | .compI el t it c, .ListComp e [⟨tg, y, ifs, a⟩] sc _ => decide (a = 0) && !k.hot && okI k it y && itTg it tg && (match tgNs t tg with
    | some own => blkC k.N k.sc sc own && own.all (fun q => decide (k.N[q.2]? = some q.1) && isLoc (sc.names.lookup q.1)) && okC ⟨k.N, sc, false, k.fs⟩ c ifs && okE ⟨k.N, sc, false, k.fs⟩ el e
    | none => false)
  | .sset a, .Call (.Name f _) [.Call (.Name g _) [y] [] _] [] _ => !k.hot && decide (f = ("sorted" : Str)) && k.gl f && decide (g = ("set" : Str)) && k.gl g && okE k a y && nstar y
  | .lset a, .Call (.Name f _) [.Call (.Name g _) [y] [] _] [] _ => !k.hot && decide (f = ("len" : Str)) && k.gl f && decide (g = ("set" : Str)) && k.gl g && okE k a y && nstar y
  | .allL a, .Call (.Name f _) [y] [] _ => !k.hot && decide (f = ("all" : Str)) && k.gl f && okE k a y && nstar y
  | .fld a f, .Attribute x n _ => decide (n = Str.ofString f) && isFld f && okE k a x && nsup x
  | .prop a p, .Attribute x n _ => !k.hot && decide (n = Str.ofString p) && isPrp p && okE k a x && nsup x
  | .mcall a m es, .Call (.Attribute x n ap) xs [] cp => !k.hot && decide (n = Str.ofString m) && !isFld m && !isPrp m && okE k a x && okEs k es xs && nsup x && (ap.endLine == cp.line) && decide (xs.length < 20)
  | .own i, .Name x _ => k.vis i x
  | .listM a, .Call (.Name x _) [y] [] _ => decide (x = ("list" : Str)) && k.gl x && okE k a y && nstar y
  | .fmt a, .FormattedValue x c none _ => decide (c = -1) && okE k a x
  | .fstr es, .JoinedStr xs _ => decide (2 ≤ xs.length) && okEs k es xs
  | .join s a, .Call (.Attribute (.Constant (.str z) kd p) m ap) [y] [] cp => decide (m = ("join" : Str)) && decide (z = Str.ofString s) && okE k a y && nstar y && (ap.endLine == cp.line)
  | _, _ => false
def okT (k : Ck) : T → Expr → Bool
  | .val a, x => okE k a x && (match x with
    | .BoolOp .. => false
    | .UnaryOp .. => false
    | .IfExp .. => false
    | .Compare .. => false
    | _ => true)
  | .cmp op a b, .Compare x [o] [y] _ => coB op o && okE k a x && okE k b y && (match y with
    | .Set .. => false
    | _ => true)
  | .chain o1 o2 a b c, .Compare x [p, q] [y, z] _ => coB o1 p && coB o2 q && okE k a x && okE k b y && okE k c z && (match z with
    | .Set .. => false
    | _ => true)
  | .isN a, .Compare x [.Is] [.Constant .none _ _] _ => okE k a x
  | .notN a, .Compare x [.IsNot] [.Constant .none _ _] _ => okE k a x
  | .and a b, .BoolOp .And (x :: y :: r) p => okT k a x && (match r with
    | [] => okT k b y
    | z :: r => okT k b (.BoolOp .And (y :: z :: r) p))
  | .or a b, .BoolOp .Or (x :: y :: r) p => okT k a x && (match r with
    | [] => okT k b y
    | z :: r => okT k b (.BoolOp .Or (y :: z :: r) p))
  | .not a, .UnaryOp .Not x _ => okT k a x
  | _, _ => false
def okI (k : Ck) : I → Expr → Bool
  | .seq a, y => okE k a y && (match y with
    | .Set .. => false
    | _ => true)
  | .rng n, .Call (.Name r _) [y] [] _ => decide (r = ("range" : Str)) && k.gl r && okE k n y && nstar y
  | .rng2 a b, .Call (.Name r _) [x, y] [] _ => decide (r = ("range" : Str)) && k.gl r && okE k a x && nstar x && okE k b y && nstar y
  | .enum a, .Call (.Name r _) [y] [] _ => decide (r = ("enumerate" : Str)) && k.gl r && okE k a y && nstar y
  | .zip a b, .Call (.Name r _) [x, y] [] _ => decide (r = ("zip" : Str)) && k.gl r && okE k a x && nstar x && okE k b y && nstar y
  | _, _ => false
def okC (k : Ck) : To → List Expr → Bool
  | .no, [] => true
  | .some t, [x] => okT k t x
  | _, _ => false
def okEs (k : Ck) : Es → List Expr → Bool
  | .nil, [] => true
  | .cons e es, x :: xs => nstar x && okE k e x && okEs k es xs
  | _, _ => false
def okO (k : Ck) : Eo → Option Expr → Bool
  | .no, none => true
  | .some e, some x => okE k e x
  | _, _ => false
end
def Ck.sto (k : Ck) (i : Nat) (x : Str) : Bool := decide (k.N[i]? = some x) && (match k.sc.names.lookup x with
  | some .local => true
  | some .cell => true
  | _ => false)
def noComp : Expr → Bool
  | .ListComp .. => false
  | .SetComp .. => false
  | .DictComp .. => false
  | _ => true
def noTup : Expr → Bool
  | .Tuple .. => false
  | _ => true
def noSlice : Expr → Bool
  | .Slice .. => false
  | _ => true
def noSet : Expr → Bool
  | .Set .. => false
  | _ => true
mutual
def okTg (k : Ck) : Tg → Expr → Bool
  | .nm i, .Name x _ => k.sto i x
  | .tup ts, .Tuple es _ _ => okTgs k ts es
  | _, _ => false
def okTgs (k : Ck) : Tgs → List Expr → Bool
  | .nil, [] => true
  | .cons t ts, e :: es => okTg k t e && nstar e && okTgs k ts es
  | _, _ => false
end
/-- two names at once: stored from the right, or by a tuple -/
def parS (k : Ck) (x y : Str) (px py : Pos) (a b : Expr) : Bool :=
  isLoc (k.sc.names.lookup x) && isLoc (k.sc.names.lookup y) && (px.line == py.line) && !(x == y) && !(foldedForSure 8 a && foldedForSure 8 b) && !(constantsAlone 8 a && constantsAlone 8 b)
def parT (k : Ck) (x y : Str) (a b : Expr) : Bool := (foldedForSure 8 a && foldedForSure 8 b) || !(isLoc (k.sc.names.lookup x) && isLoc (k.sc.names.lookup y))
mutual
def okS (k : Ck) : St' → Stmt → Bool
  | .expr e, .Expr x _ => okE k e x && noComp x
  | .set i e, .Assign [.Name x px] ex pos => okE k e ex && (match ex with
    | .ListComp _ _ sc p => k.loc i x && (px.line == p.line) && !(sc.names.any fun (n, kd) => n == x && (kd == .local || kd == .cell))
    | .SetComp .. => false
    | .DictComp .. => false
    | _ => k.sto i x)
  | .par i j a b, .Assign [.Tuple [.Name x px, .Name y py] _ _] (.Tuple [ea, eb] _ _) _ => !k.hot && k.sto i x && k.sto j y && decide (i ≠ j) && nstar ea && nstar eb && okE k a ea && okE k b eb && (parS k x y px py ea eb || parT k x y ea eb)
  | .asg t e, .Assign [tg] ex _ => !k.hot && okTg k t tg && okE k e ex && noComp ex && noTup ex
  | .putL o i e, .Assign [.Subscript xo xi _] ex _ => okE k o xo && okE k i xi && okE k e ex && noComp ex && noSlice xi
  | .ownNew i es, .Assign [.Name x _] (.List xs _) _ => k.sto i x && okEs k es xs
  | .ownApp i e, .Expr (.Call (.Attribute (.Name x _) m ap) [y] [] cp) _ => k.vis i x && decide (m = ("append" : Str)) && okE k e y && nstar y && (ap.endLine == cp.line)
  | .ownAdd i a b, .Assign [.Name x _] (.BinOp ea .Add eb _) _ => k.sto i x && okE k a ea && okE k b eb
  | .appL o e, .Expr (.Call (.Attribute (.Name x px) m ap) [y] [] cp) _ => okE k o (.Name x px) && decide (m = ("append" : Str)) && okE k e y && nstar y && (ap.endLine == cp.line)
  | .aug i op e, .AugAssign (.Name x _) o ex _ => k.sto i x && opB op o && okE k e ex
  | .setF i f e, .Assign [.Attribute (.Name x px) n _] ex _ => !k.hot && k.vis i x && decide (n = Str.ofString f) && isFld f && okE k e ex && noComp ex
  | .ret e, .Return (some x) _ => okE k e x
  | .retN, .Return none _ => true
  | .ite c a b, .If t x y _ => okT k c t && okSs k a x && okSs k b y
  | .whl c b, .While t x [] _ => okT k c t && okSs k b x
  | .for_ t it b, .For tg x body [] _ => !k.hot && okTg k t tg && okE k it x && okSs k b body && noSet x
  | .forI t it b, .For tg x body [] _ => !k.hot && okTg k t tg && okI k it x && itTg it tg && okSs k b body
  | .ownExt i e, .Expr (.Call (.Attribute (.Name x _) m ap) [y] [] cp) _ => k.vis i x && decide (m = ("extend" : Str)) && okE k e y && nstar y && (ap.endLine == cp.line)
  | .forR i n b, .For (.Name x _) (.Call (.Name r _) [y] [] _) body [] _ => !k.hot && k.sto i x && decide (r = ("range" : Str)) && k.gl r && okE k n y && nstar y && okSs k b body
  | .brk, .Break _ => true
  | .cont, .Continue _ => true
  | .pass, .Pass _ => true
  | .raise _ (.cons _ _), .Raise .. => true
  | .raise c es, .Raise (some (.Call (.Name x _) xs [] _)) none _ => !k.hot && decide (x = Str.ofString c) && k.gl x && (match es, xs with
    | .nil, [] => true
    | _, _ => false)
  | .tryx b c _ su, .Try body [.ExceptHandler (some (.Name x _)) none (s0 :: suite) _] [] [] _ => !k.hot && decide (x = Str.ofString c) && k.gl x && okSs k b body && okSs ⟨k.N, k.sc, true, []⟩ su (s0 :: suite)
  | _, _ => false
def okSs (k : Ck) : Ss → List Stmt → Bool
  | .nil, [] => true
  | .cons (.freeze _) r, xs => okSs k r xs
  | .cons s r, x :: xs => okS k s x && okSs k r xs
  | _, _ => false
end
end PV

set_option Elab.async false
set_option linter.all false
set_option maxRecDepth 100000
set_option maxHeartbeats 1000000
namespace PV
open PySem PySem.Spec PyProof.Rows L2

/-! ### new objects -/
section
variable {F : Fx} {st : S} {g : G} {H : Hp} {p : Addr} {o : HO}
theorem SR.liv (s : SR F st g H) : Liv g := s.live
theorem SR.notM (s : SR F st g H) (hp : H p = none) : ¬ g.M p := fun m => by
  obtain ⟨o, e⟩ := s.mh p m
  rw [hp] at e; cases e
theorem ext_new (hp : H p = none) : Ext g H g (upd H p o) where
  keep := fun a u h _ => by rw [upd_ne (ne_of_none h hp)]; exact h
  mu := fun _ _ h => h
  nw := fun _ _ h => .inl h
  fz := fun _ _ _ n => n
  gh := fun _ h => h
  stay := fun a u h => ⟨u, by rw [upd_ne (ne_of_none h hp)]; exact h⟩
  sx := rfl
theorem ORep.mono {g' : G} {H' : Hp} (l : Liv g) (x : Ext g H g' H') {a : Addr} {o : O} (h : ORep F g H a o) (e : ∀ u, H a = some u → H' a = some u) : ORep F g' H' a o := by
  cases o with
  | lst xs => obtain ⟨vs, h1, h2⟩ := h; exact ⟨vs, e _ h1, h2.mono l x⟩
  | dic kvs => obtain ⟨vs, h1, h2⟩ := h; exact ⟨vs, e _ h1, h2.mono l x⟩
  | ins c fs => obtain ⟨dx, fv, h1, h2⟩ := h; exact ⟨dx, fv, e _ h1, h2.mono l x⟩
theorem SR.new (s : SR F st g H) (hp : H p = none) : SR F st g (upd H p o) where
  at_ := fun i u h => by
    obtain ⟨a, e, r⟩ := s.at_ i u h
    exact ⟨a, e, r.mono s.live (ext_new hp) fun v q => by rw [upd_ne (ne_of_none q hp)]; exact q⟩
  inj := s.inj
  dom := s.dom
  live := s.live
  mh := fun a m => by
    obtain ⟨u, e⟩ := s.mh a m
    exact ⟨u, by rw [upd_ne (ne_of_none e hp)]; exact e⟩
def G.put (g : G) (n : Nat) (p : Addr) : G := ⟨fun i => if i = n then some p else g.mu i, fun a => a = p ∨ g.M a, g.sx⟩
theorem SR.mu_none (s : SR F st g H) : g.mu st.length = none := by
  cases e : g.mu st.length with
  | none => rfl
  | some a => exact absurd (s.dom _ _ e) (Nat.lt_irrefl _)
theorem ext_put (s : SR F st g H) (hp : H p = none) : Ext g H (g.put st.length p) (upd H p o) where
  keep := fun a u h _ => by rw [upd_ne (ne_of_none h hp)]; exact h
  mu := fun i a h => by
    show (if i = st.length then some p else g.mu i) = some a
    rw [if_neg (fun z => by rw [z, s.mu_none] at h; cases h)]
    exact h
  nw := fun i a h => by
    have h' : (if i = st.length then some p else g.mu i) = some a := h
    split at h'
    · cases h'; exact .inr hp
    · exact .inl h'
  fz := fun a u h n m => by
    rcases m with m | m
    · rw [m, hp] at h; cases h
    · exact n m
  gh := fun a h => .inr h
  stay := fun a u h => ⟨u, by rw [upd_ne (ne_of_none h hp)]; exact h⟩
  sx := rfl
theorem SR.put (s : SR F st g H) (hp : H p = none) {u : O} (hu : ORep F (g.put st.length p) (upd H p o) p u) : SR F (st ++ [u]) (g.put st.length p) (upd H p o) where
  at_ := fun i v h => by
    by_cases hi : i < st.length
    · rw [List.getElem?_append_left hi] at h
      obtain ⟨a, e, r⟩ := s.at_ i v h
      exact ⟨a, (ext_put s hp (o := o)).mu i a e, r.mono s.live (ext_put s hp) fun w q => by rw [upd_ne (ne_of_none q hp)]; exact q⟩
    · have e : i = st.length := by
        have := (List.getElem?_eq_some_iff.mp h).1
        simp at this; omega
      subst e
      simp at h
      subst h
      exact ⟨p, if_pos rfl, hu⟩
  inj := fun i j a h1 h2 => by
    have h1' : (if i = st.length then some p else g.mu i) = some a := h1
    have h2' : (if j = st.length then some p else g.mu j) = some a := h2
    split at h1' <;> split at h2'
    · omega
    · cases h1'; exact absurd (s.live _ _ h2') (s.notM hp)
    · cases h2'; exact absurd (s.live _ _ h1') (s.notM hp)
    · exact s.inj i j a h1' h2'
  dom := fun i a h => by
    have h' : (if i = st.length then some p else g.mu i) = some a := h
    rw [List.length_append]
    split at h'
    · simp; omega
    · have := s.dom i a h'; simp; omega
  live := fun i a h => by
    have h' : (if i = st.length then some p else g.mu i) = some a := h
    split at h'
    · cases h'; exact .inl rfl
    · exact .inr (s.live i a h')
  mh := fun a m => by
    rcases m with m | m
    · rw [m]; exact ⟨o, upd_same⟩
    · obtain ⟨u, e⟩ := s.mh a m
      exact ⟨u, by rw [upd_ne (ne_of_none e hp)]; exact e⟩
/-- a ghost: live, of no number -/
def G.own (g : G) (p : Addr) : G := ⟨g.mu, fun a => a = p ∨ g.M a, g.sx⟩
def G.free (g : G) (p : Addr) : G := ⟨g.mu, fun a => g.M a ∧ a ≠ p, g.sx⟩
theorem ext_own (s : SR F st g H) (hp : H p = none) : Ext g H (g.own p) (upd H p o) where
  keep := fun a u h _ => by rw [upd_ne (ne_of_none h hp)]; exact h
  mu := fun i a h => h
  nw := fun i a h => .inl h
  fz := fun a u h n m => by
    rcases m with m | m
    · rw [m, hp] at h; cases h
    · exact n m
  gh := fun a h => .inr h
  stay := fun a u h => ⟨u, by rw [upd_ne (ne_of_none h hp)]; exact h⟩
  sx := rfl
theorem wk_own {g' : G} {H' : Hp} (s : SR F st g H) (hp : H p = none) : Wk g H (g.own p) (upd H p o) := (ext_own s hp).wk s.live
theorem SR.own (s : SR F st g H) (hp : H p = none) : SR F st (g.own p) (upd H p o) where
  at_ := fun i u h => by
    obtain ⟨a, e, r⟩ := s.at_ i u h
    exact ⟨a, e, r.mono s.live (ext_own s hp) fun v q => by rw [upd_ne (ne_of_none q hp)]; exact q⟩
  inj := s.inj
  dom := s.dom
  live := fun i a h => .inr (s.live i a h)
  mh := fun a m => by
    rcases m with m | m
    · rw [m]; exact ⟨o, upd_same⟩
    · obtain ⟨u, e⟩ := s.mh a m
      exact ⟨u, by rw [upd_ne (ne_of_none e hp)]; exact e⟩
/-- a live address is written -/
theorem wk_wr {u : HO} (hm : g.M p) : Wk g H g (upd H p u) where
  fz := fun a o h n => ⟨by rw [upd_ne (show a ≠ p from fun z => n (z ▸ hm))]; exact h, n⟩
  mu := fun _ _ h => h
theorem ORep.wk {g' : G} {H' : Hp} (x : Wk g H g' H') {a : Addr} {o : O} (h : ORep F g H a o) (e : ∀ u, H a = some u → H' a = some u) : ORep F g' H' a o := by
  cases o with
  | lst xs => obtain ⟨vs, h1, h2⟩ := h; exact ⟨vs, e _ h1, h2.wk x⟩
  | dic kvs => obtain ⟨vs, h1, h2⟩ := h; exact ⟨vs, e _ h1, h2.wk x⟩
  | ins c fs => obtain ⟨dx, fv, h1, h2⟩ := h; exact ⟨dx, fv, e _ h1, h2.wk x⟩
theorem SR.wr {u : HO} (s : SR F st g H) (hm : g.M p) (hn : ∀ i, g.mu i ≠ some p) : SR F st g (upd H p u) where
  at_ := fun i o h => by
    obtain ⟨a, e, r⟩ := s.at_ i o h
    exact ⟨a, e, r.wk (wk_wr hm) fun v q => by rw [upd_ne (show a ≠ p from fun z => hn i (z ▸ e))]; exact q⟩
  inj := s.inj
  dom := s.dom
  live := s.live
  mh := fun a m => by
    by_cases e : a = p
    · rw [e]; exact ⟨u, upd_same⟩
    · obtain ⟨v, q⟩ := s.mh a m
      exact ⟨v, by rw [upd_ne e]; exact q⟩
theorem Ext.wr {g0 : G} {H0 : Hp} {u : HO} (x : Ext g0 H0 g H) (h0 : H0 p = none) : Ext g0 H0 g (upd H p u) where
  keep := fun a o h n => by rw [upd_ne (ne_of_none h h0)]; exact x.keep a o h n
  mu := x.mu
  nw := x.nw
  fz := x.fz
  gh := x.gh
  stay := fun a o h => by
    obtain ⟨o', e⟩ := x.stay a o h
    exact ⟨o', by rw [upd_ne (ne_of_none h h0)]; exact e⟩
  sx := x.sx
theorem wk_free : Wk g H (g.free p) H := ⟨fun a o h n => ⟨h, fun z => n z.1⟩, fun _ _ h => h⟩
theorem SR.free (s : SR F st g H) (hn : ∀ i, g.mu i ≠ some p) : SR F st (g.free p) H where
  at_ := fun i o h => by
    obtain ⟨a, e, r⟩ := s.at_ i o h
    exact ⟨a, e, r.wk wk_free fun v q => q⟩
  inj := s.inj
  dom := s.dom
  live := fun i a h => ⟨s.live i a h, fun z => hn i (z ▸ h)⟩
  mh := fun a m => s.mh a m.1
theorem Ext.free {g0 : G} {H0 : Hp} (x : Ext g0 H0 g H) (h0 : ¬ g0.M p) : Ext g0 H0 (g.free p) H where
  keep := x.keep
  mu := x.mu
  nw := x.nw
  fz := fun a o h n m => x.fz a o h n m.1
  gh := fun a m => ⟨x.gh a m, fun z => h0 (z ▸ m)⟩
  stay := x.stay
  sx := x.sx
theorem rep_tup_new (s : SR F st g H) (hp : H p = none) {ds : List D} {vs : List V} (r : Reps F g H ds vs) : Rep F g (upd H p (.tup vs)) (.tup ds) (.ref p) :=
  .tup (.inl ⟨.inl upd_same, s.notM hp⟩) (r.mono s.live (ext_new hp))
theorem rep_lst_new (s : SR F st g H) (hp : H p = none) {ds : List D} {vs : List V} (r : Reps F g H ds vs) : Rep F g (upd H p (.lst vs)) (.lst ds) (.ref p) :=
  .lst ⟨upd_same, s.notM hp⟩ (r.mono s.live (ext_new hp))
end

section
variable {F : Fx} {g : G} {H : Hp}
theorem Reps.length : ∀ {ds : List D} {vs : List V}, Reps F g H ds vs → ds.length = vs.length
  | _, _, .nil => rfl
  | _, _, .cons _ r => congrArg Nat.succ (Reps.length r)
theorem Reps.get : ∀ {ds : List D} {vs : List V} {i : Nat} {d : D}, Reps F g H ds vs → ds[i]? = some d → ∃ v, vs[i]? = some v ∧ Rep F g H d v
  | _, _, _, _, .nil, h => by simp at h
  | _, _, 0, _, .cons r _, h => by simp at h; subst h; exact ⟨_, rfl, r⟩
  | _, _, i + 1, d, .cons _ t, h => by
    obtain ⟨v, h1, h2⟩ := Reps.get (i := i) (d := d) t (by simpa using h)
    exact ⟨v, by simpa using h1, h2⟩
theorem Reps.get' : ∀ {ds : List D} {vs : List V} {i : Nat} {v : V}, Reps F g H ds vs → vs[i]? = some v → ∃ d, ds[i]? = some d ∧ Rep F g H d v
  | _, _, _, _, .nil, h => by simp at h
  | _, _, 0, _, .cons r _, h => by simp at h; subst h; exact ⟨_, rfl, r⟩
  | _, _, i + 1, v, .cons _ t, h => by
    obtain ⟨d, h1, h2⟩ := Reps.get' (i := i) (v := v) t (by simpa using h)
    exact ⟨d, by simpa using h1, h2⟩
theorem Reps.append : ∀ {ds es : List D} {vs ws : List V}, Reps F g H ds vs → Reps F g H es ws → Reps F g H (ds ++ es) (vs ++ ws)
  | _, _, _, _, .nil, s => s
  | _, _, _, _, .cons r t, s => .cons r (Reps.append t s)
theorem Reps.take : ∀ {ds : List D} {vs : List V} (n : Nat), Reps F g H ds vs → Reps F g H (ds.take n) (vs.take n)
  | _, _, 0, _ => .nil
  | _, _, _ + 1, .nil => .nil
  | _, _, n + 1, .cons r t => .cons r (Reps.take n t)
theorem Reps.drop : ∀ {ds : List D} {vs : List V} (n : Nat), Reps F g H ds vs → Reps F g H (ds.drop n) (vs.drop n)
  | _, _, 0, r => r
  | _, _, _ + 1, .nil => .nil
  | _, _, n + 1, .cons _ t => Reps.drop n t
theorem Reps.set {d : D} {v : V} (r : Rep F g H d v) : ∀ {ds : List D} {vs : List V} (i : Nat), Reps F g H ds vs → Reps F g H (ds.set i d) (vs.set i v)
  | _, _, _, .nil => .nil
  | _, _, 0, .cons _ t => .cons r t
  | _, _, i + 1, .cons q t => .cons q (Reps.set r i t)
theorem Reps.cut {ds : List D} {vs : List V} (r : Reps F g H ds vs) (lo hi : Option Int) : Reps F g H (cutD ds lo hi) (cutV vs lo hi) := by
  unfold cutD cutV
  rw [r.length]
  exact (r.drop _).take _
theorem Reps.rep {ds : List D} {vs : List V} (r : Reps F g H ds vs) : ∀ n : Nat, Reps F g H (List.replicate n ds).flatten (List.replicate n vs).flatten
  | 0 => .nil
  | n + 1 => by
    rw [List.replicate_succ, List.replicate_succ, List.flatten_cons, List.flatten_cons]
    exact r.append (Reps.rep r n)
theorem Reps.atI {ds : List D} {vs : List V} (r : Reps F g H ds vs) {k : Int} {d : D} (h : atI ds k = some d) : ∃ v, atI vs k = some v ∧ Rep F g H d v := by
  unfold L2.atI at h ⊢
  rw [r.length] at h
  cases e : ixN vs.length k with
  | none => rw [e] at h; cases h
  | some j =>
    rw [e] at h
    exact r.get h
theorem reps_ints : ∀ ns : List Int, Reps F g H (ns.map .int) (ns.map V.int)
  | [] => .nil
  | n :: ns => .cons (.int n) (reps_ints ns)
theorem reps_strs : ∀ ns : List Str, Reps F g H (ns.map .str) (ns.map V.str)
  | [] => .nil
  | n :: ns => .cons (.str n) (reps_strs ns)
/-- plain data -/
theorem Rep.dp_aux : True := trivial
mutual
theorem Rep.dp : ∀ {d : D} {v : V} {x : PyData}, Rep F g H d v → d.pd = some x → x.hasDict = false → Dp F.K H v x
  | _, _, _, .non, h, _ => by simp [D.pd] at h; subst h; exact .non
  | _, _, _, .bl b, h, _ => by simp [D.pd] at h; subst h; exact .bl b
  | _, _, _, .int i, h, _ => by simp [D.pd] at h; subst h; exact .int i
  | _, _, _, .str i, h, _ => by simp [D.pd] at h; subst h; exact .str i
  | _, _, _, .tup (xs := xs) t r, h, n => by
    simp only [D.pd] at h
    cases e : D.pds xs with
    | none => rw [e] at h; cases h
    | some ys =>
      rw [e] at h
      simp at h
      subst h
      exact .tup t.sq (Reps.dp r e (by simpa [PyData.hasDict] using n))
  | _, _, _, .lst (xs := xs) t r, h, n => by
    simp only [D.pd] at h
    cases e : D.pds xs with
    | none => rw [e] at h; cases h
    | some ys =>
      rw [e] at h
      simp at h
      subst h
      exact .lst t.sq (Reps.dp r e (by simpa [PyData.hasDict] using n))
  | _, _, _, .dic (kvs := kvs) _ _ _, h, n => by
    cases kvs with
    | nil => simp [D.pd] at h; subst h; simp [PyData.hasDict] at n
    | cons a b => simp [D.pd] at h
  | _, _, _, .ins _ _ _ _ _, h, _ => by simp [D.pd] at h
  | _, _, _, .obj _, h, _ => by simp [D.pd] at h
  | _, _, _, .scr _, h, _ => by simp [D.pd] at h
  | _, _, _, .cdic _, h, _ => by simp [D.pd] at h
theorem Reps.dp : ∀ {ds : List D} {vs : List V} {xs : List PyData}, Reps F g H ds vs → D.pds ds = some xs → PyData.hasDictAll xs = false → DpAll F.K H vs xs
  | _, _, _, .nil, h, _ => by simp [D.pds] at h; subst h; exact .nil
  | _, _, _, .cons (d := d) (ds := ds) r t, h, n => by
    simp only [D.pds] at h
    split at h
    · rename_i x xs e1 e2
      simp at h
      subst h
      simp [PyData.hasDictAll] at n
      exact .cons (Rep.dp r e1 n.1) (Reps.dp t e2 n.2)
    · cases h
end
/-- as it stands this moment: a live list may stand for its items -/
inductive RepI (F : Fx) (g : G) (H : Hp) : D → V → Prop where
  | rep {d : D} {v : V} : Rep F g H d v → RepI F g H d v
  | brw {xs : List D} {vs : List V} {a : Addr} : H a = some (.lst vs) → Reps F g H xs vs → RepI F g H (.lst xs) (.ref a)
/-- the same, of a list that no one else may write -/
inductive RepB (F : Fx) (g : G) (H : Hp) : D → V → Prop where
  | rep {d : D} {v : V} : Rep F g H d v → RepB F g H d v
  | brw {xs : List D} {vs : List V} {a : Addr} : H a = some (.lst vs) → Reps F g H xs vs → (∀ j, g.mu j ≠ some a) → RepB F g H (.lst xs) (.ref a)
theorem RepI.nl {d : D} {v : V} (r : RepI F g H d v) (h : ∀ xs, d ≠ .lst xs) : Rep F g H d v := by
  cases r with
  | rep r => exact r
  | brw _ _ => exact absurd rfl (h _)
theorem RepI.ls {xs : List D} {v : V} (r : RepI F g H (.lst xs) v) : ∃ a vs, v = .ref a ∧ H a = some (.lst vs) ∧ Reps F g H xs vs := by
  cases r with
  | rep r =>
    cases r with
    | lst t r => exact ⟨_, _, rfl, t.1, r⟩
  | brw h r => exact ⟨_, _, rfl, h, r⟩
theorem RepI.dp {d : D} {v : V} {x : PyData} (r : RepI F g H d v) (h : d.pd = some x) (n : x.hasDict = false) : Dp F.K H v x := by
  cases r with
  | rep r => exact r.dp h n
  | @brw xs vs a t r =>
    simp only [D.pd] at h
    cases e : D.pds xs with
    | none => rw [e] at h; cases h
    | some ys =>
      rw [e] at h
      simp at h
      subst h
      exact .lst (.inl (.inl t)) (Reps.dp r e (by simpa [PyData.hasDict] using n))
theorem RepB.mono {g' : G} {H' : Hp} {d : D} {v : V} (r : RepB F g H d v) (l : Liv g) (x : Ext g H g' H') : RepB F g' H' d v := by
  cases r with
  | rep r => exact .rep (r.mono l x)
  | brw h r n =>
    refine .brw (x.keep _ _ h n) (r.mono l x) fun j e => ?_
    rcases x.nw j _ e with q | q
    · exact n j q
    · rw [h] at q; cases q
theorem RepB.now {d : D} {v : V} (r : RepB F g H d v) : RepI F g H d v := by
  cases r with
  | rep r => exact .rep r
  | brw h r _ => exact .brw h r
theorem RepB.res {st : S} {d : D} {v : V} (r : RepB F g H d v) (s : SR F st g H) : RepI F g H (resD st d) v := by
  unfold resD
  split
  · cases r with
    | rep r =>
      cases r with
      | obj m =>
        split
        · rename_i xs e
          obtain ⟨a, m', vs, h1, h2⟩ := s.at_ _ _ e
          rw [m] at m'; cases m'
          exact .brw h1 h2
        · exact .rep (.obj m)
  · exact r.now
end
end PV

set_option Elab.async false
set_option linter.all false
set_option maxRecDepth 100000
set_option maxHeartbeats 1000000
namespace PV
open PySem PySem.Spec PyProof.Rows L2
/-! ### operations by values -/
section
variable (X : Cx)
def rBin (op : Operator) : R2 := fun x y H Q => ∀ pins s σ v u, Inv X pins σ H s → RelV x v → RelV y u → wpAny (model X.prog X.w) X.A (binaryOp op v u) (EP X pins σ Q) X.xe s
def rIp (op : Operator) : TIp := fun x y H Q => ∀ pins s σ v u, Inv X pins σ H s → RelV x v → RelV y u → wpAny (model X.prog X.w) X.A (inplaceOp op v u) (EP X pins σ Q) X.xe s
def rCmp (op : CmpOp) : R2 := fun x y H Q => ∀ pins s σ v u, Inv X pins σ H s → RelV x v → RelV y u → wpAny (model X.prog X.w) X.A (compareOp op v u) (EP X pins σ Q) X.xe s
def rSub : R2 := fun x y H Q => ∀ value slice pins s σ v u, Inv X pins σ H s → RelV x v → RelV y u → subscripted slice false v u = operate [v, u] (getItem v u) → wpAny (model X.prog X.w) X.A (subscriptTail value slice v u) (EP X pins σ Q) X.xe s
def rCl (f : Value) : List V → Hp → VK → Prop := fun xs H Q => ∀ pins s σ us, Inv X pins σ H s → Vals xs us → wpAny (model X.prog X.w) X.A (call f us) (EP X pins σ Q) X.xe s
def rSli : V → Option Int → Option Int → Hp → VK → Prop := fun x lo hi H Q => ∀ pins s σ v vl vu sl, Inv X pins σ H s → RelV x v → s.heap.IsSliceOf sl vl vu .none → IsPart vl lo → IsPart vu hi →
  ∃ T id, typeLookup (.type T) "__getitem__" = pure (some (.builtin id)) ∧ s.TypeIs v T ∧ wpAny (model X.prog X.w) X.A (getItem v (.ref sl)) (EP X pins σ Q) X.xe s
variable {X}
theorem op_bin {op : Operator} : OpR X (binaryOp op) (rBin X op) := fun pins s σ H x y v u Q I rx ry h => h pins s σ v u I rx ry
theorem op_cmp {op : CmpOp} : OpR X (compareOp op) (rCmp X op) := fun pins s σ H x y v u Q I rx ry h => h pins s σ v u I rx ry
theorem ix_sub : IxR X (rSub X) := fun value slice pins s σ H x y v u Q I rx ry h hs => h value slice pins s σ v u I rx ry hs
theorem call_cl {f : Value} : CallR X f (rCl X f) := fun pins s σ H xs us Q I r h => h pins s σ us I r
theorem sl_sli : L2.SlR X (rSli X) := fun pins s σ H x v vl vu lo hi sl Q I rx hs pl pu h => h pins s σ v vl vu sl I rx hs pl pu
theorem rBin.of {op : Operator} {r : R2} (h : OpR X (binaryOp op) r) {x y : V} {H : Hp} {Q : VK} (q : r x y H Q) : rBin X op x y H Q := fun pins s σ v u I rx ry => h pins s σ H x y v u Q I rx ry q
theorem rCmp.of {op : CmpOp} {r : R2} (h : OpR X (compareOp op) r) {x y : V} {H : Hp} {Q : VK} (q : r x y H Q) : rCmp X op x y H Q := fun pins s σ v u I rx ry => h pins s σ H x y v u Q I rx ry q
theorem rSub.of {r : R2} (h : IxR X r) {x y : V} {H : Hp} {Q : VK} (q : r x y H Q) : PV.rSub X x y H Q := fun value slice pins s σ v u I rx ry hs => h value slice pins s σ H x y v u Q I rx ry q hs
theorem rCl.of {f : Value} {r : List V → Hp → VK → Prop} (h : CallR X f r) {xs : List V} {H : Hp} {Q : VK} (q : r xs H Q) : rCl X f xs H Q := fun pins s σ us I rv => h pins s σ H xs us Q I rv q
theorem rSli.of {r : V → Option Int → Option Int → Hp → VK → Prop} (h : L2.SlR X r) {x : V} {lo hi : Option Int} {H : Hp} {Q : VK} (q : r x lo hi H Q) : rSli X x lo hi H Q := fun pins s σ v vl vu sl I rx hs pl pu => h pins s σ H x v vl vu lo hi sl Q I rx hs pl pu q
end
section
variable {F : Fx} {X : Cx} {st : S} {g : G} {H : Hp} {Q : VK} {d e z : D} {x y : V}
/-- what is behind an operation -/
abbrev Go (F : Fx) (st : S) (g : G) (H : Hp) (Q : VK) (z : D) : Prop := ∀ g' H' v, SR F st g' H' → Ext g H g' H' → Rep F g' H' z v → Q v H'
theorem Go.same {F : Fx} {st : S} {g : G} {H : Hp} {Q : VK} {z : D} (q : Go F st g H Q z) (s : SR F st g H) {v : V} (r : Rep F g H z v) : Q v H := q g H v s Ext.refl r
theorem Go.tup {F : Fx} {st : S} {g : G} {H : Hp} {Q : VK} {ds : List D} (q : Go F st g H Q (.tup ds)) (s : SR F st g H) {vs : List V} (r : Reps F g H ds vs) {p : Addr} (hp : H p = none) : Q (.ref p) (upd H p (.tup vs)) :=
  q g _ _ (s.new hp) (ext_new hp) (rep_tup_new s hp r)
theorem Go.lst {F : Fx} {st : S} {g : G} {H : Hp} {Q : VK} {ds : List D} (q : Go F st g H Q (.lst ds)) (s : SR F st g H) {vs : List V} (r : Reps F g H ds vs) {p : Addr} (hp : H p = none) : Q (.ref p) (upd H p (.lst vs)) :=
  q g _ _ (s.new hp) (ext_new hp) (rep_lst_new s hp r)
theorem nil_iff {F : Fx} {g : G} {H : Hp} {ds : List D} {vs : List V} (r : Reps F g H ds vs) : ds = [] ↔ vs = [] := by
  cases r <;> simp
theorem bin_ok {op : BO} (hK : X.K = F.K) (h : binD op d e = some z) (s : SR F st g H) (rd : RepI F g H d x) (re : RepI F g H e y) (q : Go F st g H Q z) : rBin X (opOf op) x y H Q := by
  unfold binD at h
  split at h
  · replace rd := rd.nl nofun; replace re := re.nl nofun; cases rd; cases re; cases h
    exact rBin.of op_add ⟨_, _, rfl, rfl, q.same s (.int _)⟩
  · replace rd := rd.nl nofun; replace re := re.nl nofun; cases rd; cases re
    split at h
    · rename_i hz
      cases h
      exact rBin.of op_add_str ⟨_, _, rfl, rfl, hz, q.same s (.str _)⟩
    · cases h
  · replace rd := rd.nl nofun
    replace re := re.nl nofun
    cases rd with
    | tup t1 r1 =>
      cases re with
      | tup t2 r2 =>
        split at h
        · rename_i hz
          cases h
          refine rBin.of op_catA ⟨_, _, _, _, rfl, rfl, by rw [hK]; exact t1.sq, by rw [hK]; exact t2.sq, by rw [← r1.length, ← r2.length]; exact hz, fun z => ?_, fun _ z => ?_, fun _ _ p hp => q.tup s (r1.append r2) hp⟩
          · have z' := (nil_iff r1).mpr z
            subst z'
            exact q.same s (.tup t2 r2)
          · have z' := (nil_iff r2).mpr z
            subst z'
            rw [List.append_nil] at q
            exact q.same s (.tup t1 r1)
        · cases h
  · obtain ⟨a1, v1, rfl, t1, r1⟩ := rd.ls
    obtain ⟨a2, v2, rfl, t2, r2⟩ := re.ls
    split at h
    · rename_i hz
      cases h
      exact rBin.of op_cat ⟨_, _, _, _, rfl, rfl, t1, t2, by rw [← r1.length, ← r2.length]; exact hz, fun p hp => q.lst s (r1.append r2) hp⟩
    · cases h
  · replace rd := rd.nl nofun; replace re := re.nl nofun; cases rd; cases re; cases h
    exact rBin.of op_sub ⟨_, _, rfl, rfl, q.same s (.int _)⟩
  · replace rd := rd.nl nofun; replace re := re.nl nofun; cases rd; cases re
    split at h
    · rename_i hz
      cases h
      rcases hz with hz | hz
      · refine rBin.of op_mul ⟨_, _, rfl, rfl, ?_, q.same s (.int _)⟩
        rcases hz with hz | hz
        · left; omega
        · right; omega
      · exact rBin.of op_mulW ⟨_, _, rfl, rfl, hz, q.same s (.int _)⟩
    · cases h
  · obtain ⟨a1, v1, rfl, t1, r1⟩ := rd.ls
    replace re := re.nl nofun
    cases re
    split at h
    · rename_i hz
      cases h
      obtain ⟨h1, h2, h3⟩ := hz
      exact rBin.of op_rep ⟨_, _, _, rfl, rfl, t1, by omega, h2, by rw [← r1.length]; exact h3, fun p hp => q.lst s (r1.rep _) hp⟩
    · cases h
  · replace rd := rd.nl nofun; replace re := re.nl nofun; cases rd; cases re
    split at h
    · rename_i hz
      cases h
      exact rBin.of op_fdivW ⟨_, _, rfl, rfl, hz, q.same s (.int _)⟩
    · cases h
  · replace rd := rd.nl nofun; replace re := re.nl nofun; cases rd; cases re
    split at h
    · rename_i hz
      cases h
      exact rBin.of op_mod ⟨_, _, rfl, rfl, hz, q.same s (.int _)⟩
    · cases h
  · replace rd := rd.nl nofun; replace re := re.nl nofun; cases rd; cases re
    split at h
    · rename_i hz
      cases h
      exact rBin.of op_pow ⟨_, _, rfl, rfl, hz, q.same s (.int _)⟩
    · cases h
  · cases h
theorem flat_rep {d : D} {v : V} (h : flatD d = true) (r : Rep F g H d v) : flatV v = true := by
  cases r <;> first | rfl | cases h
theorem flat_eq {d e : D} {v u : V} (hd : flatD d = true) (he : flatD e = true) (r : Rep F g H d v) (q : Rep F g H e u) : eqFD d e = eqV v u := by
  cases r <;> first | cases hd | skip
  all_goals (cases q <;> first | rfl | cases he)
theorem flat_reps {x : D} {u : V} (hx : flatD x = true) (rx : Rep F g H x u) : ∀ {ys : List D} {vs : List V}, ys.all flatD = true → Reps F g H ys vs → vs.all flatV = true ∧ (ys.any fun y => eqFD y x) = inV u vs
  | _, _, _, .nil => ⟨rfl, rfl⟩
  | _, _, h, .cons r t => by
    rw [List.all_cons, Bool.and_eq_true] at h
    obtain ⟨h1, h2⟩ := flat_reps hx rx h.2 t
    refine ⟨by rw [List.all_cons, flat_rep h.1 r, h1]; rfl, ?_⟩
    rw [List.any_cons, h2, flat_eq h.1 hx r rx]
    rfl
theorem in_ok {b : Bool} (hK : X.K = F.K) (hw : X.w = F.w) (hu : X.A.units + 65 < cLine) (h : inD d e = some b) (s : SR F st g H) (rd : RepI F g H d x) (re : RepI F g H e y) (q : Q (.bl b) H) : rCmp X .In x y H Q := by
  unfold inD at h
  split at h
  · rename_i z w
    replace rd := rd.nl nofun
    replace re := re.nl nofun
    cases rd; cases re
    split at h
    · rename_i c ec
      have e1 : z = ⟨#[c]⟩ := by
        obtain ⟨⟨l⟩⟩ := z
        have e2 : l = [c] := ec
        subst e2
        rfl
      subst e1
      cases h
      exact rCmp.of op_in_sign ⟨c, _, rfl, rfl, q⟩
    · cases h
  · rename_i z kvs
    replace rd := rd.nl nofun
    replace re := re.nl nofun
    cases rd
    cases re with
    | @cdic _ ad cd =>
      cases h
      obtain ⟨⟨es, n, kd⟩, look⟩ := cd
      have kd' : KDict X.K X.w ad es n := by rw [hK, hw]; exact kd
      cases hz : kvs.lookup z with
      | none =>
        rw [hz] at q
        exact rCmp.of (op_in_kd kd') ⟨z, none, rfl, rfl, by rw [hK]; exact (look z).2 hz, q⟩
      | some i =>
        rw [hz] at q
        obtain ⟨t, ht⟩ := (look z).1 i hz
        exact rCmp.of (op_in_kd kd') ⟨z, some _, rfl, rfl, by rw [hK]; exact ht, q⟩
  · rename_i ys _ _
    replace re := re.nl nofun
    cases re with
    | tup t r =>
      split at h
      · rename_i hz
        have h1 := Option.some.inj h
        have nl : ∀ xs, d ≠ .lst xs := fun xs z => by rw [z] at hz; exact absurd hz.1 (by simp [flatD])
        have f1 := flat_rep hz.1 (rd.nl nl)
        have f2 := flat_reps (x := d) hz.1 (rd.nl nl) hz.2 r
        refine rCmp.of op_in_seq ⟨_, _, rfl, .inr (by rw [hK]; exact t.sq), f1, f2.1, ?_⟩
        rw [← f2.2, h1]
        exact q
      · cases h
  · rename_i ys _ _
    split at h
    · rename_i hz
      have h1 := Option.some.inj h
      have nl : ∀ xs, d ≠ .lst xs := fun xs z => by rw [z] at hz; exact absurd hz.1 (by simp [flatD])
      obtain ⟨a, vs, rfl, t, r⟩ := re.ls
      have f1 := flat_rep hz.1 (rd.nl nl)
      have f2 := flat_reps (x := d) hz.1 (rd.nl nl) hz.2 r
      refine rCmp.of op_in_seq ⟨_, _, rfl, .inl (.inl (.inl t)), f1, f2.1, ?_⟩
      rw [← f2.2, h1]
      exact q
    · split at h
      · rename_i a bs e1 e2
        split at h
        · rename_i hz
          obtain ⟨⟨h1, h2⟩, h3, h4⟩ := hz
          have h5 := Option.some.inj h
          refine rCmp.of (op_inD hu) ⟨a, bs, by rw [hK]; exact rd.dp e1 h3, by rw [hK]; exact re.dp (x := .list bs) (by simp only [D.pd, e2, Option.map_some]) (by simpa only [PyData.hasDict] using h4), h1, h2, ?_⟩
          rw [h5]
          exact q
        · cases h
      · cases h
  · cases h
theorem nin_ok {b : Bool} (hK : X.K = F.K) (hw : X.w = F.w) (hu : X.A.units + 65 < cLine) (h : inD d e = some b) (s : SR F st g H) (rd : RepI F g H d x) (re : RepI F g H e y) (q : Q (.bl (!b)) H) : rCmp X .NotIn x y H Q := by
  unfold inD at h
  split at h
  · rename_i z w
    replace rd := rd.nl nofun
    replace re := re.nl nofun
    cases rd; cases re
    split at h
    · rename_i c ec
      have e1 : z = ⟨#[c]⟩ := by
        obtain ⟨⟨l⟩⟩ := z
        have e2 : l = [c] := ec
        subst e2
        rfl
      subst e1
      cases h
      exact rCmp.of op_notIn_sign ⟨c, _, rfl, rfl, q⟩
    · cases h
  · rename_i z kvs
    replace rd := rd.nl nofun
    replace re := re.nl nofun
    cases rd
    cases re with
    | @cdic _ ad cd =>
      cases h
      obtain ⟨⟨es, n, kd⟩, look⟩ := cd
      have kd' : KDict X.K X.w ad es n := by rw [hK, hw]; exact kd
      cases hz : kvs.lookup z with
      | none =>
        rw [hz] at q
        exact rCmp.of (op_notIn_kd kd') ⟨z, none, rfl, rfl, by rw [hK]; exact (look z).2 hz, q⟩
      | some i =>
        rw [hz] at q
        obtain ⟨t, ht⟩ := (look z).1 i hz
        exact rCmp.of (op_notIn_kd kd') ⟨z, some _, rfl, rfl, by rw [hK]; exact ht, q⟩
  · rename_i ys _ _
    replace re := re.nl nofun
    cases re with
    | tup t r =>
      split at h
      · rename_i hz
        have h1 := Option.some.inj h
        have nl : ∀ xs, d ≠ .lst xs := fun xs z => by rw [z] at hz; exact absurd hz.1 (by simp [flatD])
        have f1 := flat_rep hz.1 (rd.nl nl)
        have f2 := flat_reps (x := d) hz.1 (rd.nl nl) hz.2 r
        refine rCmp.of op_notIn_seq ⟨_, _, rfl, .inr (by rw [hK]; exact t.sq), f1, f2.1, ?_⟩
        rw [← f2.2, h1]
        exact q
      · cases h
  · rename_i ys _ _
    split at h
    · rename_i hz
      have h1 := Option.some.inj h
      have nl : ∀ xs, d ≠ .lst xs := fun xs z => by rw [z] at hz; exact absurd hz.1 (by simp [flatD])
      obtain ⟨a, vs, rfl, t, r⟩ := re.ls
      have f1 := flat_rep hz.1 (rd.nl nl)
      have f2 := flat_reps (x := d) hz.1 (rd.nl nl) hz.2 r
      refine rCmp.of op_notIn_seq ⟨_, _, rfl, .inl (.inl (.inl t)), f1, f2.1, ?_⟩
      rw [← f2.2, h1]
      exact q
    · split at h
      · rename_i a bs e1 e2
        split at h
        · rename_i hz
          obtain ⟨⟨h1, h2⟩, h3, h4⟩ := hz
          have h5 := Option.some.inj h
          refine rCmp.of (op_notInD hu) ⟨a, bs, by rw [hK]; exact rd.dp e1 h3, by rw [hK]; exact re.dp (x := .list bs) (by simp only [D.pd, e2, Option.map_some]) (by simpa only [PyData.hasDict] using h4), h1, h2, ?_⟩
          rw [h5]
          exact q
        · cases h
      · cases h
  · cases h
theorem cmp_ok {op : CO} {b : Bool} (hK : X.K = F.K) (hw : X.w = F.w) (hu : X.A.units + 65 < cLine) (h : cmpD op d e = some b) (s : SR F st g H) (rd : RepI F g H d x) (re : RepI F g H e y) (q : Q (.bl b) H) : rCmp X (coOf op) x y H Q := by
  have heq : ∀ {c : Bool}, eqD d e = some c → (scal x y = true ∧ decide (x = y) = c) ∨ ∃ a b, Dp X.K H x a ∧ Dp X.K H y b ∧ SeqAt.shaped a = true ∧ SeqAt.shaped b = true ∧ PyData.eqv a b = c := by
    intro c h
    unfold eqD at h
    split at h
    · rename_i p q _
      replace rd := rd.nl nofun
      replace re := re.nl nofun
      cases rd; cases re
      refine .inl ⟨rfl, ?_⟩
      rw [← Option.some.inj h]
      by_cases hpq : p = q
      · subst hpq; simp
      · rw [decide_eq_false hpq, decide_eq_false (fun z => hpq (V.str.inj z))]
    · rename_i p q _
      replace rd := rd.nl nofun
      replace re := re.nl nofun
      cases rd; cases re
      refine .inl ⟨rfl, ?_⟩
      rw [← Option.some.inj h]
      by_cases hpq : p = q
      · subst hpq; simp
      · rw [decide_eq_false hpq, decide_eq_false (fun z => hpq (V.int.inj z))]
    · split at h
      · rename_i a b e1 e2
        split at h
        · rename_i hz
          obtain ⟨⟨h1, h2⟩, h3, h4⟩ := hz
          exact .inr ⟨a, b, by rw [hK]; exact rd.dp e1 h3, by rw [hK]; exact re.dp e2 h4, h1, h2, Option.some.inj h⟩
        · cases h
      · cases h
  unfold cmpD at h
  split at h
  · rcases heq h with ⟨h1, h2⟩ | ⟨a, b', h1, h2, h3, h4, h5⟩
    · exact rCmp.of op_eq ⟨h1, by rw [h2]; exact q⟩
    · exact rCmp.of (op_eqD (by omega)) ⟨a, b', h1, h2, h3, h4, by rw [h5]; exact q⟩
  · cases e1 : eqD d e with
    | none => rw [e1] at h; cases h
    | some c =>
      rw [e1] at h
      have h' : (!c) = b := Option.some.inj h
      rcases heq e1 with ⟨h1, h2⟩ | ⟨a, b', h1, h2, h3, h4, h5⟩
      · exact rCmp.of op_ne ⟨h1, by rw [h2, h']; exact q⟩
      · exact rCmp.of (op_neD (by omega)) ⟨a, b', h1, h2, h3, h4, by rw [h5, h']; exact q⟩
  · replace rd := rd.nl nofun; replace re := re.nl nofun; cases rd; cases re; cases h
    exact rCmp.of op_lt ⟨_, _, rfl, rfl, q⟩
  · replace rd := rd.nl nofun; replace re := re.nl nofun; cases rd; cases re; cases h
    exact rCmp.of op_le ⟨_, _, rfl, rfl, q⟩
  · replace rd := rd.nl nofun; replace re := re.nl nofun; cases rd; cases re; cases h
    exact rCmp.of op_gt ⟨_, _, rfl, rfl, q⟩
  · replace rd := rd.nl nofun; replace re := re.nl nofun; cases rd; cases re; cases h
    exact rCmp.of op_ge ⟨_, _, rfl, rfl, q⟩
  · exact in_ok hK hw hu h s rd re q
  · cases e1 : inD d e with
    | none => rw [e1] at h; cases h
    | some c =>
      rw [e1] at h
      have h' : (!c) = b := Option.some.inj h
      exact nin_ok hK hw hu e1 s rd re (by rw [h']; exact q)
  · cases h
theorem items_ok {xs : List D} (hK : X.K = F.K) (h : itemsD st d = some xs) (s : SR F st g H) (rd : RepI F g H d x) : ∃ a vs, x = .ref a ∧ Reps F g H xs vs ∧ ((∃ ys, d = .tup ys) ∧ SqT X.K H a vs ∨ (∀ ys, d ≠ .tup ys) ∧ SqL X.K H a vs) := by
  unfold itemsD at h
  split at h
  · cases h
    cases rd.nl nofun with
    | tup t r => exact ⟨_, _, rfl, r, .inl ⟨⟨_, rfl⟩, by rw [hK]; exact t.sq⟩⟩
  · cases h
    obtain ⟨a, vs, rfl, t, r⟩ := rd.ls
    exact ⟨_, _, rfl, r, .inr ⟨nofun, .inl (.inl t)⟩⟩
  · cases h
    cases rd.nl nofun with
    | scr t => exact ⟨_, _, rfl, reps_ints _, .inr ⟨nofun, by rw [hK]; exact t.sq⟩⟩
  · rename_i i
    split at h
    · rename_i ys e
      cases h
      cases rd.nl nofun with
      | obj m =>
        obtain ⟨a, m', vs, h1, h2⟩ := s.at_ _ _ e
        rw [m] at m'; cases m'
        exact ⟨_, _, rfl, h2, .inr ⟨nofun, .inl (.inl h1)⟩⟩
    · cases h
  · cases h
/-- d[k] of a written dict -/
theorem ix_kd {a : Addr} {es : Array DictEntry} {n : Nat} (D : KDict X.K X.w a es n) : IxR X (fun x y H Q => ∃ (z : Str) (u0 : Value) (v0 : V), x = .ref a ∧ y = .str z ∧ PySem.W.nsIn X.K a z = some (some u0) ∧ RelV v0 u0 ∧ Q v0 H) := by
  intro value slice pins s σ H x y v u Q I rx ry h hs
  have ty := kd_type D I
  obtain ⟨z, u0, v0, rfl, rfl, e, r, q⟩ := h
  cases rx
  obtain ⟨t, rfl⟩ := ry
  exact subscriptTail_builtinR (x := u0) ty PySem.F.slot_dict_getitem.lookup
    (wpAny_getItem_of (Q := fun r s' => r = u0 ∧ EP X pins σ Q r s') (PySem.strKind_is X.prog X.w z t) (PySem.W.mapOf_K (prog := X.prog) I.kIn D.at_ D.lit) (PySem.W.find_K D.at_ e) ⟨rfl, v0, H, I.tok _, r, q⟩) hs
theorem sub_ok (hK : X.K = F.K) (hw : X.w = F.w) (h : subD st d e = some z) (s : SR F st g H) (rd : RepI F g H d x) (re : RepI F g H e y) (q : Go F st g H Q z) : PV.rSub X x y H Q := by
  unfold subD at h
  split at h
  · replace rd := rd.nl nofun; replace re := re.nl nofun; cases rd; cases re
    split at h
    · rename_i hz
      cases e1 : atI (_ : List Nat) _ with
      | none => rw [e1] at h; cases h
      | some c =>
        rw [e1] at h
        cases h
        exact rSub.of ix_str ⟨_, _, c, rfl, rfl, hz, e1, q.same s (.str _)⟩
    · cases h
  · replace re := re.nl nofun
    cases re
    cases e1 : itemsD st d with
    | none => rw [e1] at h; cases h
    | some xs =>
      rw [e1] at h
      have h' : atI xs _ = some z := h
      obtain ⟨a, vs, rfl, r, ⟨_, sq⟩ | ⟨_, sq⟩⟩ := items_ok hK e1 s rd
      · obtain ⟨v, h1, h2⟩ := r.atI h'
        exact rSub.of ix_tup ⟨_, _, _, v, rfl, rfl, sq, h1, q.same s h2⟩
      · obtain ⟨v, h1, h2⟩ := r.atI h'
        exact rSub.of ix_list ⟨_, _, _, v, rfl, rfl, sq, h1, q.same s h2⟩
  · rename_i kvs z
    replace rd := rd.nl nofun
    replace re := re.nl nofun
    cases re
    cases rd with
    | @cdic _ ad cd =>
      obtain ⟨⟨es, n, kd⟩, look⟩ := cd
      have kd' : KDict X.K X.w ad es n := by rw [hK, hw]; exact kd
      cases hz : kvs.lookup z with
      | none => rw [hz] at h; cases h
      | some i =>
        rw [hz] at h
        cases h
        obtain ⟨t, ht⟩ := (look z).1 i hz
        exact rSub.of (ix_kd kd') ⟨z, _, .int i, rfl, rfl, by rw [hK]; exact ht, ⟨t, rfl⟩, q.same s (.int _)⟩
  · cases h
theorem cut_all {xs : List D} {lo hi : Option Int} (hw : HT.sIx xs.length 0 lo = 0 ∧ HT.sIx xs.length xs.length hi = xs.length) : PV.cutD xs lo hi = xs := by
  unfold PV.cutD
  rw [hw.1, hw.2, List.drop_zero, Nat.sub_zero, List.take_length]
theorem sli_ok {lo hi : Option Int} (hK : X.K = F.K) (h : sliceD st d lo hi = some z) (s : SR F st g H) (rd : RepI F g H d x) (q : Go F st g H Q z) : rSli X x lo hi H Q := by
  unfold sliceD at h
  split at h
  · cases rd.nl nofun
    split at h
    · rename_i hz
      cases h
      exact rSli.of sl_str ⟨_, rfl, hz, q.same s (.str _)⟩
    · cases h
  · cases h
    obtain ⟨a, vs, rfl, t, r⟩ := rd.ls
    exact rSli.of sl_list ⟨_, _, rfl, .inl (.inl t), fun p hp => q.lst s (r.cut lo hi) hp⟩
  · cases h
    cases rd.nl nofun with
    | scr t => exact rSli.of sl_list ⟨_, _, rfl, by rw [hK]; exact t.sq, fun p hp => q.lst s ((reps_ints _).cut lo hi) hp⟩
  · split at h
    · rename_i ys e
      cases h
      cases rd.nl nofun with
      | obj m =>
        obtain ⟨a, m', vs, h1, h2⟩ := s.at_ _ _ e
        rw [m] at m'; cases m'
        exact rSli.of sl_list ⟨_, _, rfl, .inl (.inl h1), fun p hp => q.lst s (h2.cut lo hi) hp⟩
    · cases h
  · cases rd.nl nofun with
    | tup t r =>
      cases h
      refine rSli.of sl_tupA ⟨_, _, rfl, by rw [hK]; exact t.sq, fun hw => ?_, fun _ p hp => q.tup s (r.cut lo hi) hp⟩
      rw [← r.length] at hw
      rw [cut_all hw] at q
      exact q.same s (.tup t r)
  · cases h
theorem tru_of {b : Bool} (hK : X.K = F.K) (h : truD st d = some b) (s : SR F st g H) (rd : Rep F g H d x) : TruV X.K x H b := by
  unfold truD at h
  split at h
  · cases rd; cases h; rfl
  · cases rd; cases h; rfl
  · cases rd; cases h; rfl
  · cases rd
    split at h
    · rename_i hz
      cases h
      refine ⟨hz, ?_⟩
      cases e : (_ : Str).length with
      | zero => rfl
      | succ n =>
        symm
        simp
        omega
    · cases h
  · cases h
    cases rd with
    | tup t r =>
      refine .inr (.inl ⟨_, by rw [hK]; exact t.sq, ?_⟩)
      cases r <;> rfl
  · cases h
    cases rd with
    | lst t r =>
      refine .inl ⟨_, by rw [hK]; exact t.sq, ?_⟩
      cases r <;> rfl
  · cases h
/-- the type of plain data -/
def dTy : D → Option String
  | .non => some "NoneType"
  | .bl _ => some "bool"
  | .int _ => some "int"
  | .str _ => some "str"
  | .tup _ => some "tuple"
  | .lst _ => some "list"
  | .dic _ => some "dict"
  | _ => none
theorem tyx_of {t : String} (hK : X.K = F.K) (h : dTy d = some t) (rd : Rep F g H d x) : TyX X.K H x (.type t) := by
  cases rd with
  | non => cases h; exact .base .non
  | bl b => cases h; exact .base (.bl b)
  | int i => cases h; exact .base (.int i)
  | str i => cases h; exact .base (.str i)
  | tup t r =>
    cases h
    rcases t with ⟨t | ⟨o, t⟩, _⟩ | ⟨o, its, n, t, c, _⟩
    · exact .base (.tup t)
    · exact .fTuple t
    · rw [hK]; exact .kTuple t c
  | lst t r => cases h; exact .base (.lst t.1)
  | dic t _ _ => cases h; exact .base (.dK t)
  | ins _ _ _ => cases h
  | obj _ => cases h
  | scr _ => cases h
  | cdic _ => cases h
def tyD (t : Ty) : Option String := match t with
  | .own _ => none
  | t => some (tyNm t)
theorem isi_tab {t : Ty} {b : Bool} (h : isiD d t = some b) : ∃ a c, dTy d = some a ∧ tyD t = some c ∧ kitB a c = some b := by
  cases d <;> cases t <;> first
    | (cases h; exact ⟨_, _, rfl, rfl, by decide +kernel⟩)
    | cases h
theorem isi_ok {t : Ty} {b : Bool} (hK : X.K = F.K) (h : isiD d t = some b) (rd : Rep F g H d x) (q : Q (.bl b) H) : rCl X (.builtin "isinstance") [x, .ty (tyNm t)] H Q := by
  obtain ⟨a, c, h1, h2, h3⟩ := isi_tab h
  have e : tyNm t = c := by cases t <;> first | (cases h2; rfl) | cases h2
  subst e
  exact rCl.of call_isi ⟨x, .ty (tyNm t), _, _, b, rfl, .ty _, tyx_of hK h1 rd, kit_ty h3, q⟩
theorem call_reprD {Y : Cx} (hg : Y.A.guards = some []) (hu : Y.A.units + 100 < cLine) : CallR Y (.builtin "repr") (fun xs H Q => ∃ (x : V) (p : PyData), xs = [x] ∧ Dp Y.K H x p ∧ (p.showable = true ∧ p.depth ≤ 60) ∧ p.hasDict = false ∧ p.shown.length ≤ sizeLine ∧ Q (.str p.shown) H) := by
  intro pins s σ H xs us Q I r h
  obtain ⟨x, p, rfl, hd, ⟨hs, hdp⟩, hnd, hz, q⟩ := h
  obtain ⟨u, rfl, rx⟩ := vals1 r
  obtain ⟨as, rr⟩ := Dp.reads I p x u hd rx
  have fin : ∀ h' t tk, (∀ b o, s.heap.get? b = some o → h'.get? b = some o) → EP Y pins σ Q (.str p.shown t) { s with heap := h', toks := tk } := fun h' t tk k => ⟨.str p.shown, H, I.kept k, ⟨_, rfl⟩, q⟩
  cases x with
  | ref a =>
    obtain rfl : u = Value.ref a := rx
    exact repr_of_reads' rr hs (fun z => by rw [hnd] at z; cases z) hg (by omega) (fun _ _ e => e) (fun h' t tk k => fin h' t tk k) hz
  | non =>
    cases hd; cases rx
    exact PySem.P.repr_of_none (fin _ _ _ fun _ _ e => e)
  | bl b =>
    cases hd; cases rx
    refine PySem.P.repr_of_bool ?_
    have := fin s.heap s.toks (s.toks + 1) fun _ _ e => e
    cases b <;> exact this
  | int i =>
    cases hd
    obtain ⟨t, rfl⟩ := rx
    exact PySem.P.repr_of_int (of_decide_eq_true hs) (fin _ _ _ fun _ _ e => e)
  | str y =>
    cases hd
    obtain ⟨t, rfl⟩ := rx
    exact PySem.P.repr_of_str (fin _ _ _ fun _ _ e => e) hz
  | _ => cases hd
def biV : Bi → Value
  | .len => .builtin "len"
  | .abs => .builtin "abs"
  | .int => .type "int"
  | .str => .type "str"
  | .repr => .builtin "repr"
  | .tuple => .type "tuple"
  | .list => .type "list"
theorem bi_ok {b : Bi} (hK : X.K = F.K) (hgd : X.A.guards = some []) (hu : X.A.units + 100 < cLine) (h : biD st b d = some z) (s : SR F st g H) (rd : RepI F g H d x) (q : Go F st g H Q z) : rCl X (biV b) [x] H Q := by
  unfold biD at h
  split at h
  · cases rd.nl nofun
    split at h
    · rename_i hz
      cases h
      exact rCl.of call_len ⟨_, _, rfl, ⟨hz, rfl⟩, q.same s (.int _)⟩
    · cases h
  · cases e1 : itemsD st d with
    | none => rw [e1] at h; cases h
    | some xs =>
      rw [e1] at h
      cases h
      obtain ⟨a, vs, rfl, r, h2⟩ := items_ok hK e1 s rd
      refine rCl.of call_len_seq ⟨_, vs, rfl, ?_, ?_⟩
      · rcases h2 with h2 | h2
        · exact .inr h2.2
        · exact .inl h2.2
      · rw [← r.length]
        exact q.same s (.int _)
  · cases rd.nl nofun; cases h
    exact rCl.of call_abs ⟨_, rfl, q.same s (.int _)⟩
  · cases rd.nl nofun; cases h
    exact rCl.of call_int1 (.inl ⟨_, rfl, q.same s (.int _)⟩)
  · cases rd.nl nofun; cases h
    exact rCl.of call_int1 (.inr ⟨_, rfl, q.same s (.int _)⟩)
  · cases rd.nl nofun
    split at h
    · rename_i hz
      cases h
      exact rCl.of call_str_int ⟨_, rfl, hz, q.same s (.str _)⟩
    · cases h
  · split at h
    · rename_i p e1
      split at h
      · rename_i hz
        cases h
        exact rCl.of (call_reprD hgd hu) ⟨x, p, rfl, by rw [hK]; exact rd.dp e1 hz.2.1, hz.1, hz.2.1, hz.2.2, q.same s (.str _)⟩
      · cases h
    · cases h
  · cases h
    cases rd.nl nofun with
    | tup t r => exact rCl.of call_tuple_of ⟨_, _, rfl, .inr ⟨by rw [hK]; exact t.sq, q.same s (.tup t r)⟩⟩
  · rename_i hne
    cases e1 : itemsD st d with
    | none => rw [e1] at h; cases h
    | some xs =>
      rw [e1] at h
      cases h
      obtain ⟨a, vs, rfl, r, ⟨⟨ys, e2⟩, _⟩ | ⟨_, h2⟩⟩ := items_ok hK e1 s rd
      · exact absurd e2 (hne ys)
      · exact rCl.of call_tuple_of ⟨_, vs, rfl, .inl ⟨h2, fun p hp => q.tup s r hp⟩⟩
  · cases e1 : itemsD st d with
    | none => rw [e1] at h; cases h
    | some xs =>
      rw [e1] at h
      cases h
      obtain ⟨a, vs, rfl, r, h2⟩ := items_ok hK e1 s rd
      refine rCl.of call_list_of ⟨_, vs, rfl, ?_, fun p hp => q.lst s r hp⟩
      rcases h2 with h2 | h2
      · exact .inr h2.2
      · exact .inl h2.2
  · cases h
theorem strs_ok : ∀ {xs : List D} {vs : List V} {ys : List Str}, Reps F g H xs vs → strsD xs = some ys → vs = ys.map V.str
  | [], _, _, .nil, h => by cases h; rfl
  | d :: ds, _, _, .cons r t, h => by
    unfold strsD at h
    split at h
    · rename_i e; cases e
    · rename_i y r' e
      cases e
      cases r
      cases e2 : strsD ds with
      | none => rw [e2] at h; cases h
      | some zs =>
        rw [e2] at h
        cases h
        rw [strs_ok t e2, List.map_cons]
    · cases h
theorem join_ok {a : Str} (hK : X.K = F.K) (h : joinD st a e = some z) (s : SR F st g H) (re : RepI F g H e y) (q : Go F st g H Q z) :
    ∃ b p, ∃ ys : List Str, V.str a = .str b ∧ [y] = [.ref p] ∧ (SqL X.K H p (ys.map V.str) ∨ SqT X.K H p (ys.map V.str)) ∧ (ys.map (·.length)).sum + ys.length * b.length ≤ 16777216 ∧ Q (.str (Txt.join b ys)) H := by
  unfold joinD at h
  cases e1 : itemsD st e with
  | none => rw [e1] at h; cases h
  | some xs =>
    rw [e1] at h
    have h' : ((strsD xs).bind fun ys => if (ys.map (·.length)).sum + ys.length * a.length ≤ 16777216 then some (D.str (Txt.join a ys)) else none) = some z := h
    cases e2 : strsD xs with
    | none => rw [e2] at h'; cases h'
    | some ys =>
      rw [e2] at h'
      have h'' : (if (ys.map (·.length)).sum + ys.length * a.length ≤ 16777216 then some (D.str (Txt.join a ys)) else none) = some z := h'
      split at h''
      · rename_i hz
        cases h''
        obtain ⟨b, vs, rfl, r, h2⟩ := items_ok hK e1 s re
        have ev := strs_ok r e2
        subst ev
        refine ⟨_, _, ys, rfl, rfl, ?_, hz, q.same s (.str _)⟩
        rcases h2 with h2 | h2
        · exact .inr h2.2
        · exact .inl h2.2
      · cases h''
theorem fmt_ok (h : fmtD d = some z) (s : SR F st g H) (rd : Rep F g H d x) (q : Go F st g H Q z) : (∃ y : Str, x = .str y ∧ y.length ≤ sizeLine ∧ Q (.str y) H) ∨ ∃ i : Int, x = .int i ∧ i.natAbs.log2 < 1920 ∧ Q (.str (toString i)) H := by
  unfold fmtD at h
  split at h
  · cases rd
    split at h
    · rename_i hz
      cases h
      exact .inl ⟨_, rfl, hz, q.same s (.str _)⟩
    · cases h
  · cases rd
    split at h
    · rename_i hz
      cases h
      exact .inr ⟨_, rfl, hz, q.same s (.str _)⟩
    · cases h
  · cases h
end
end PV

set_option Elab.async false
set_option linter.all false
set_option maxRecDepth 100000
set_option maxHeartbeats 1000000
namespace PV
open PySem PySem.Spec PyProof.Rows L2
/-! ### expressions, by what the machine does -/
def wpE (X : Cx) (e : Expr) : TE := fun σ H Q => ∀ pins s, Inv X pins σ H s → wpAny (model X.prog X.w) X.A (eval e X.env) (EP X pins σ Q) X.xe s
def wpT (X : Cx) (e : Expr) : TT := fun σ H Q => ∀ pins s, Inv X pins σ H s → wpAny (model X.prog X.w) X.A (isTrue e X.env (eval e X.env)) (TP X pins σ Q) X.xe s
def wpW (X : Cx) (e : Expr) : TT := fun σ H Q => ∀ (wh : Sem Value) pins s, Inv X pins σ H s → wpAny (model X.prog X.w) X.A (isTrue e X.env wh) (TP X pins σ Q) X.xe s
def wpA (X : Cx) (es : List Expr) : TA := fun σ H Q => ∀ (pos : Pos) pins s, Inv X pins σ H s → wpAny (model X.prog X.w) X.A (spliced (backTo pos (starEach es X.env))) (AP X pins σ Q) X.xe s
def wpO (X : Cx) (e : Option Expr) : TO := fun σ H Q => ∀ pins s, Inv X pins σ H s → wpAny (model X.prog X.w) X.A (evalPart e X.env) (fun u s' => ∃ o H', Inv X pins σ H' s' ∧ IsPart u o ∧ Q o H') X.xe s
section
variable {X : Cx} {e : Expr} {es : List Expr} {σ : L2.St} {H : Hp}
theorem pe_wp : PE X e (wpE X e) := ⟨fun pins s _ _ _ I h => h pins s I⟩
theorem pt_wp : PT X e (wpT X e) := ⟨fun pins s _ _ _ I h => h pins s I⟩
theorem pw_wp : PW X e (wpW X e) := ⟨fun wh pins s _ _ _ I h => h wh pins s I⟩
theorem pa_wp : PA X es (wpA X es) := ⟨fun pos pins s _ _ _ I h => h pos pins s I⟩
theorem po_wp {o : Option Expr} : PO X o (wpO X o) := ⟨fun pins s _ _ _ I h => h pins s I⟩
theorem wp_e {t : TE} (h : PE X e t) {Q : VK} (q : t σ H Q) : wpE X e σ H Q := fun pins s I => h.run pins s σ H Q I q
theorem wp_t {t : TT} (h : PT X e t) {Q : Bool → Hp → Prop} (q : t σ H Q) : wpT X e σ H Q := fun pins s I => h.run pins s σ H Q I q
theorem wp_w {t : TT} (h : PW X e t) {Q : Bool → Hp → Prop} (q : t σ H Q) : wpW X e σ H Q := fun wh pins s I => h.run wh pins s σ H Q I q
theorem wp_a {t : TA} (h : PA X es t) {Q : List V → Hp → Prop} (q : t σ H Q) : wpA X es σ H Q := fun pos pins s I => h.run pos pins s σ H Q I q
theorem wp_o {o : Option Expr} {t : TO} (h : PO X o t) {Q : Option Int → Hp → Prop} (q : t σ H Q) : wpO X o σ H Q := fun pins s I => h.run pins s σ H Q I q
end
/-! ### slots -/
structure ER (F : Fx) (g : G) (H : Hp) (env : DE) (σ : L2.St) : Prop where
  len : env.length = σ.length
  val : ∀ (i : Nat) (d : D), env[i]? = some (Sl.val d) → ∃ v, σ[i]? = some (some v) ∧ Rep F g H d v
  own : ∀ (i : Nat) (xs : List D), env[i]? = some (Sl.own xs) → ∃ a vs, σ[i]? = some (some (V.ref a)) ∧ H a = some (.lst vs) ∧ Reps F g H xs vs ∧ g.M a ∧ ∀ j, g.mu j ≠ some a
  uq : ∀ (i j : Nat) (xs ys : List D), env[i]? = some (Sl.own xs) → env[j]? = some (Sl.own ys) → i ≠ j → σ[i]? ≠ σ[j]?
  nod : ∀ (i : Nat) (kvs : List (Key × D)), env[i]? ≠ some (Sl.ownD kvs)
  slf : ∀ (i : Nat) (c : String) (fs : List (String × D)), env[i]? = some (Sl.self c fs) → i = 0 ∧ F.cl c ∧ (∀ p ∈ fs, isFld p.1 = true) ∧ ∃ dx fv, σ[i]? = some (some (V.ref g.sx)) ∧ H g.sx = some (.ins (F.ca c) dx fv) ∧ RepF F g H fs fv ∧ g.M g.sx ∧ ∀ j, g.mu j ≠ some g.sx
theorem ER.mono {F : Fx} {g g' : G} {H H' : Hp} {env : DE} {σ : L2.St} (r : ER F g H env σ) (l : Liv g) (x : Ext g H g' H') : ER F g' H' env σ where
  len := r.len
  val := fun i d h => by
    obtain ⟨v, h1, h2⟩ := r.val i d h
    exact ⟨v, h1, h2.mono l x⟩
  own := fun i xs h => by
    obtain ⟨a, vs, h1, h2, h3, h4, h5⟩ := r.own i xs h
    refine ⟨a, vs, h1, x.keep a _ h2 h5, h3.mono l x, x.gh a h4, fun j e => ?_⟩
    rcases x.nw j a e with q | q
    · exact h5 j q
    · rw [h2] at q; cases q
  uq := r.uq
  nod := r.nod
  slf := fun i c fs h => by
    obtain ⟨h0, hc, hf, dx, fv, h1, h2, h3, h4, h5⟩ := r.slf i c fs h
    rw [x.sx]
    refine ⟨h0, hc, hf, dx, fv, h1, x.keep _ _ h2 h5, h3.mono l x, x.gh _ h4, fun j e => ?_⟩
    rcases x.nw j _ e with q | q
    · exact h5 j q
    · rw [h2] at q; cases q
/-! ### calls, by what the machine does -/
/-- a call of the address keeps what Φ says of the key -/
def FnRun (F : Fx) (P : Program) (w : World) (mg : Str → Option Value) (base : Heap) (Φ : Fe) (lv : Nat) (f : String) (fa : Addr) : Prop :=
    ∀ (A : Around) (outer : List Env) (s : Shared) (H : Hp) (us : List Value) (vs : List V) (Q : VK) (E : XK) (ds : List D) (st : S) (g : G),
      Room lv A → A.guards = some [] → Env0 P w F.K mg base A outer s H → Vals vs us → SR F st g H → Reps F g H ds vs → Post F (Rep F) g H Q E (Φ f ds st) →
      codeAny (model P w) A (.call (.ref fa) ⟨us, []⟩) (CR (L2.CX P w) outer P w H s Q E) s
/-- f, a name of the module, keeps what Φ says -/
def FnS (F : Fx) (P : Program) (w : World) (mg : Str → Option Value) (base : Heap) (Φ : Fe) (lv : Nat) (f : String) : Prop :=
  ∃ fa, mg (Str.ofString f) = some (.ref fa) ∧ PySem.W.keepIn F.K (.ref fa) = true ∧ FnRun F P w mg base Φ lv f fa
/-- a method or a property of a class -/
def FnM (F : Fx) (P : Program) (w : World) (mg : Str → Option Value) (base : Heap) (Φ : Fe) (lv : Nat) (c m q : String) : Prop :=
  ∃ fa, FnRun F P w mg base Φ lv q fa ∧ (if isPrp m = true then ∃ p, PropOf F.K (F.ca c) (Str.ofString m) p fa else Meth F.K (F.ca c) (Str.ofString m) fa)
def bNames : List Str := ["len", "abs", "int", "str", "repr", "tuple", "list", "isinstance", "bool", "dict", "range", "sorted", "set", "all", "enumerate", "zip", "sum", "min", "max"]
/-- a good place: X stands as k says, W is what is wanted of exceptions -/
structure CG (F : Fx) (C : Cn) (Φ : Fe) (lv : Nat) (X : Cx) (W : WX) (k : Ck) : Prop where
  K : X.K = F.K
  wv : X.w = F.w
  N : X.N = k.N
  vis : ∀ x, isVis (k.sc.names.lookup x) = true → Vis X.env.scope x
  loc : ∀ x, isLoc (k.sc.names.lookup x) = true → X.env.scope.names.lookup x = some .local
  gl : ∀ x, isGl (k.sc.names.lookup x) = true → Gl X x
  blk : ∀ sc own, blkC k.N k.sc sc own = true → BlkOk X.N X.env.scope sc own
  tk : Takes X W
  pw : PassesOwn (model X.prog X.w) X.A X.env X.xe
  nd : X.N.Nodup
  calm : k.hot = false → X.calm = true
  un : X.A.units + 100 < cLine
  gd : X.A.guards = some []
  con : ∀ x d, C.con x = some d → ∃ u v, X.mg (Str.ofString x) = some u ∧ RelV v u ∧ ∀ g H, Rep F g H d v
  bf : ∀ x ∈ bNames, X.mg x = none
  xcs : ∀ c, C.xn c = true → ∃ B newId initId bmB, ExcBaseFacts B newId initId bmB ∧ PySem.W.excIn F.K (F.ca c) bmB newId = true ∧ X.mg (Str.ofString c) = some (.ref (F.ca c)) ∧ PySem.W.keepIn F.K (.ref (F.ca c)) = true ∧ PySem.W.subIn F.K (.ref (F.ca c)) (.type "BaseException") = some true ∧ PySem.W.typeIn F.K (.ref (F.ca c)) = some (.type "type")
  sub : ∀ a c b, C.sub a c = some b → X.mg (Str.ofString c) = some (.ref (F.ca c)) ∧ PySem.W.exmOne F.K (.ref (F.ca a)) (.ref (F.ca c)) = some b
  ro : k.hot = false → Room lv X.A ∧ Room lv X.A.in1
  cls : ∀ c, F.cl c → Cls F.K (F.ca c) ∧ ∀ f, isFld f = true → NoAttr F.K (F.ca c) (Str.ofString f)
  mts : k.hot = false → ∀ c m q, C.mky c m = some q → FnM F X.prog X.w X.mg X.base Φ lv c m q
  fns : k.hot = false → ∀ f, k.fs.contains f = true → FnS F X.prog X.w X.mg X.base Φ lv f
section
variable {F : Fx} {C : Cn} {Φ : Fe} {lv : Nat} {X : Cx} {W : WX} {k : Ck}
theorem ck_vis {i : Nat} {x : Str} (G : CG F C Φ lv X W k) (h : k.vis i x = true) : X.N[i]? = some x ∧ Vis X.env.scope x ∧ (x == ("__debug__" : Str)) = false ∧ (x == ("__classdict__" : Str)) = false := by
  unfold Ck.vis at h
  simp only [Bool.and_eq_true, decide_eq_true_eq, Bool.not_eq_true'] at h
  obtain ⟨⟨⟨h1, h2⟩, h3⟩, h4⟩ := h
  exact ⟨by rw [G.N]; exact h1, G.vis x h2, h3, h4⟩
theorem ck_gl {x : Str} (G : CG F C Φ lv X W k) (h : k.gl x = true) : Gl X x ∧ (x == ("__debug__" : Str)) = false ∧ x ≠ "__name__" := by
  unfold Ck.gl at h
  simp only [Bool.and_eq_true, Bool.not_eq_true'] at h
  obtain ⟨⟨h1, h2⟩, h3⟩ := h
  exact ⟨G.gl x h1, h2, fun z => by rw [z] at h3; revert h3; decide⟩
theorem star_of {x : Expr} {xs : List Expr} {env : Env} (h : nstar x = true) : starEach (x :: xs) env = (false, eval x env) :: starEach xs env := by
  cases x <;> first | rfl | cases h
theorem star_any {env : Env} {pos : Pos} : ∀ {es : Es} {xs : List Expr}, okEs k es xs = true → (backTo pos (starEach xs env)).any (·.1) = false
  | .nil, [], _ => rfl
  | .cons e es, x :: xs, h => by
    simp only [okEs, Bool.and_eq_true] at h
    rw [star_of h.1.1]
    have := star_any (env := env) (pos := pos) (es := es) (xs := xs) h.2
    unfold backTo at this ⊢
    rw [List.map_cons, List.any_cons, this]
    rfl
  | .nil, _ :: _, h => by cases h
  | .cons _ _, [], h => by cases h
end
end PV

set_option Elab.async false
set_option linter.all false
set_option maxRecDepth 100000
set_option maxHeartbeats 2000000
namespace PV
open PySem PySem.Spec PyProof.Rows L2
/-! ### expressions are sound -/
abbrev SndE (F : Fx) (C : Cn) (Φ : Fe) (X : Cx) (W : WX) (e : E) (ex : Expr) : Prop :=
  ∀ (st : S) (g : G) (H : Hp) (σ : L2.St) (env : DE) (Q : VK), SR F st g H → ER F g H env σ → Post F (Rep F) g H Q (WE W σ) (evE C Φ e env st) → wpE X ex σ H Q
abbrev SndT (F : Fx) (C : Cn) (Φ : Fe) (X : Cx) (W : WX) (e : T) (ex : Expr) : Prop :=
  ∀ (st : S) (g : G) (H : Hp) (σ : L2.St) (env : DE) (Q : Bool → Hp → Prop), SR F st g H → ER F g H env σ → Post F (fun _ _ a b => a = b) g H Q (WE W σ) (evT C Φ e env st) → wpT X ex σ H Q
abbrev SndA (F : Fx) (C : Cn) (Φ : Fe) (X : Cx) (W : WX) (e : Es) (ex : List Expr) : Prop :=
  ∀ (st : S) (g : G) (H : Hp) (σ : L2.St) (env : DE) (Q : List V → Hp → Prop), SR F st g H → ER F g H env σ → Post F (Reps F) g H Q (WE W σ) (evEs C Φ e env st) → wpA X ex σ H Q
abbrev SndO (F : Fx) (C : Cn) (Φ : Fe) (X : Cx) (W : WX) (e : Eo) (ex : Option Expr) : Prop :=
  ∀ (st : S) (g : G) (H : Hp) (σ : L2.St) (env : DE) (Q : Option Int → Hp → Prop), SR F st g H → ER F g H env σ → Post F (fun _ _ a b => a = b) g H Q (WE W σ) (evO C Φ e env st) → wpO X ex σ H Q
section
variable {F : Fx} {C : Cn} {Φ : Fe} {lv : Nat} {X : Cx} {W : WX} {k : Ck}
theorem post_ofO {o : Option D} {st : S} {g : G} {H : Hp} {Q : VK} {X : XK} (h : Post F (Rep F) g H Q X (ofO o st)) : ∃ z, o = some z ∧ Go F st g H Q z := by
  cases o with
  | none => exact h.elim
  | some z => exact ⟨z, rfl, h⟩
theorem post_ofB {o : Option Bool} {st : S} {g : G} {H : Hp} {Q : VK} {X : XK} (h : Post F (Rep F) g H Q X (ofO (o.map .bl) st)) : ∃ b, o = some b ∧ Go F st g H Q (.bl b) := by
  cases o with
  | none => exact h.elim
  | some z => exact ⟨z, rfl, h⟩
theorem mem_b {b : Bi} : biNm b ∈ bNames := by cases b <;> decide
theorem boot_bi (b : Bi) : bootBuiltins (biNm b) = some (biV b) := by cases b <;> decide +kernel
theorem biV_call {b : Bi} {x : Str} {p pos : Pos} {y : Expr} {t : TA} {r : List V → Hp → VK → Prop} (hc : CallR X (biV b) r) (hg : Gl X x) (hm : X.mg x = none) (hv : bootBuiltins x = some (biV b)) (ha : PA X [y] t) (hn : x ≠ "__name__") (hdb : (x == ("__debug__" : Str)) = false)
    (he : starEach [y] X.env = (false, eval y X.env) :: starEach [] X.env) : PE X (.Call (.Name x p) [y] [] pos) (tCB r t) := by
  cases b with
  | len => exact pe_callB (id := "len") hc hg hm hv ha hn hdb he rfl
  | abs => exact pe_callB (id := "abs") hc hg hm hv ha hn hdb he rfl
  | repr => exact pe_callB (id := "repr") hc hg hm hv ha hn hdb he rfl
  | int => exact pe_callTy (T := "int") hc hg hm hv ha hn hdb he rfl
  | str => exact pe_callTy (T := "str") hc hg hm hv ha hn hdb he rfl
  | tuple => exact pe_callTy (T := "tuple") hc hg hm hv ha hn hdb he rfl
  | list => exact pe_callTy (T := "list") hc hg hm hv ha hn hdb he rfl
/-- a call of a def or class of the module -/
theorem call_sound {f : String} {x : Str} {xs : List Expr} {p pos : Pos} (G : CG F C Φ lv X W k) (hh : k.hot = false) (hx : x = Str.ofString f) (hg : k.gl x = true) (hf : k.fs.contains f = true) {es : Es} (hes : okEs k es xs = true) (ih : SndA F C Φ X W es xs) : SndE F C Φ X W (.call f es) (.Call (.Name x p) xs [] pos) := by
  intro st g H σ env Q sr er h
  simp only [evE] at h
  obtain ⟨g1, g2, g3⟩ := ck_gl G hg
  intro pins s I
  obtain ⟨fa, hm, hk, run⟩ := G.fns hh f hf
  · have args : wpA X xs σ H (fun vs H1 => ∃ ds s1 g1, SR F s1 g1 H1 ∧ Reps F g1 H1 ds vs ∧ Post F (Rep F) g1 H1 Q (WE W σ) (Φ f ds s1)) :=
      ih st g H σ env _ sr er (Post.bind h fun ds s1 g1 H1 vs _ sr1 x1 r1 h1 => ⟨ds, s1, g1, sr1, r1, h1⟩)
    have go : ∀ us s1 vs H1, Inv X pins σ H1 s1 → Vals vs us → (∃ ds st1 g1, SR F st1 g1 H1 ∧ Reps F g1 H1 ds vs ∧ Post F (Rep F) g1 H1 Q (WE W σ) (Φ f ds st1)) → wpAny (model X.prog X.w) X.A (call (.ref fa) us) (EP X pins σ Q) X.xe s1 := by
      intro us s1 vs H1 I1 rv ⟨ds, st1, g1, sr1, r1, h1⟩
      refine wpAny_call (codeAny_mono (run X.A X.stack s1 H1 us vs Q (WE W σ) ds st1 g1 (G.ro hh).1 G.gd (by rw [← G.K]; exact I1.env0) rv sr1 r1 h1) fun r s' hq => ?_)
      cases r with
      | error e => exact passAt G.tk σ pins H1 s1 e s' I1 hq
      | ok fl =>
        cases fl with
        | ret u => exact I1.after hq
        | next => exact hq.elim
        | brk => exact hq.elim
        | cont => exact hq.elim
    refine wpAny_Call_Name_kw (ld_glob I g1 (hx ▸ hm) ?_ g2)
    cases es with
    | nil =>
      cases xs with
      | cons => cases hes
      | nil =>
        have h0 : Post F (Rep F) g H Q (WE W σ) (Φ f [] st) := h
        exact PySem.W.callWith_K0 I.kIn (by rw [G.K]; exact hk) (go [] s [] H I .nil ⟨[], st, g, sr, .nil, h0⟩)
    | cons e es =>
      cases xs with
      | nil => cases hes
      | cons y ys =>
        have hs := hes
        simp only [okEs, Bool.and_eq_true] at hs
        refine PySem.W.callWith_K (h₀ := X.base) I.ok.mod.kin (by rw [G.K]; exact hk) (thn (args pos pins s I) fun us s1 ⟨vs, H1, I1, rv, q⟩ => ⟨I1.kIn, go us s1 vs H1 I1 rv q⟩) (star_of hs.1.1) (star_any hs.2)
/-! ### instances -/
theorem map_toNat_inj : ∀ (l m : List Char), l.map Char.toNat = m.map Char.toNat → l = m
  | [], [], _ => rfl
  | [], _ :: _, h => by cases h
  | _ :: _, [], h => by cases h
  | x :: l, y :: m, h => by
    rw [List.map_cons, List.map_cons, List.cons.injEq] at h
    have e : x = y := Char.ext (UInt32.toNat_inj.mp h.1)
    rw [e, map_toNat_inj l m h.2]
theorem ofS_inj {a b : String} (h : Str.ofString a = Str.ofString b) : a = b := by
  rw [Str.ofString_eq_toList, Str.ofString_eq_toList] at h
  have h1 : a.toList.map Char.toNat = b.toList.map Char.toNat := by
    have h2 := congrArg (fun s : Str => s.cps.toList) h
    simpa using h2
  exact String.toList_inj.mp (map_toNat_inj _ _ h1)
theorem RepF.look {g : G} {H : Hp} {f : String} {d : D} : ∀ {fs : List (String × D)} {fv : List (Str × V)}, RepF F g H fs fv → fs.lookup f = some d → ∃ v, fv.lookup (Str.ofString f) = some v ∧ Rep F g H d v
  | _, _, .nil, h => by cases h
  | _, _, @RepF.cons _ _ _ f' d' v' ds vs r1 r2, h => by
    by_cases e : f = f'
    · subst e
      rw [List.lookup_cons_self] at h
      cases h
      exact ⟨_, List.lookup_cons_self, r1⟩
    · have e1 : (f == f') = false := beq_false_of_ne e
      have e2 : (Str.ofString f == Str.ofString f') = false := beq_false_of_ne fun q => e (ofS_inj q)
      rw [List.lookup_cons, e1] at h
      obtain ⟨v, h1, h2⟩ := RepF.look r2 h
      exact ⟨v, by rw [List.lookup_cons, e2]; exact h1, h2⟩
theorem RepF.none {g : G} {H : Hp} {m : String} (hm : isFld m = false) : ∀ {fs : List (String × D)} {fv : List (Str × V)}, RepF F g H fs fv → (∀ p ∈ fs, isFld p.1 = true) → fv.lookup (Str.ofString m) = Option.none
  | _, _, .nil, _ => rfl
  | _, _, @RepF.cons _ _ _ f' d' v' ds vs r1 r2, h => by
    have e : m ≠ f' := fun q => by
      have := h (f', d') List.mem_cons_self
      rw [← q, hm] at this
      cases this
    have e2 : (Str.ofString m == Str.ofString f') = false := beq_false_of_ne fun q => e (ofS_inj q)
    rw [List.lookup_cons, e2]
    exact RepF.none hm r2 fun p hp => h p (List.mem_cons_of_mem _ hp)
theorem sup_of {x : Expr} (h : nsup x = true) (n : Str) (env : Env) (w : Sem Value) : attributeBase x n env w = w := by
  cases x <;> first | rfl | cases h
theorem fld_sound {a : E} {x : Expr} {f : String} {n : Str} {pos : Pos} (G : CG F C Φ lv X W k) (hn : n = Str.ofString f) (hf : isFld f = true) (hs : nsup x = true) (ih : SndE F C Φ X W a x) : SndE F C Φ X W (.fld a f) (.Attribute x n pos) := by
  intro st g H σ env Q sr er h
  subst hn
  simp only [evE] at h
  refine wp_e (pe_fld pe_wp (sup_of hs _ _ _)) (ih st g H σ env _ sr er (Post.bind h fun d s1 g1 H1 v _ sr1 x1 r1 h1 => ?_))
  cases d with
  | ins c fs =>
    cases r1 with
    | ins ha hm hc hff rf =>
      obtain ⟨z, hz, q⟩ := post_ofO h1
      obtain ⟨v', e1, r2⟩ := RepF.look rf hz
      obtain ⟨c1, c2⟩ := G.cls c hc
      exact ⟨_, _, _, _, v', rfl, ha, by rw [G.K]; exact c1, by rw [G.K]; exact c2 f hf, e1, q.same sr1 r2⟩
  | _ => exact h1.elim
theorem ev_meth {x : Expr} {n : Str} {apos pos : Pos} {xs : List Expr} {es : Es} {env : Env} (hs : nsup x = true) (hes : okEs k es xs = true) (hl : (apos.endLine == pos.line) = true) (hz : xs.length < 20) :
    eval (.Call (.Attribute x n apos) xs [] pos) env = (do
      let ov ← eval x env
      standAt apos.atName
      let (f, first) ← holding [ov] (getMethod ov n (do return (← importBound x env).getD true))
      callWith pos f first (backTo pos (starEach xs env)) (backToKw pos (keywordEach [] env))) := by
  have hform : methodCallForm (xs.length + ([] : List Keyword).length) (backTo pos (starEach xs env)) (backToKw pos (keywordEach [] env)) = true := by
    have h1 := star_any (env := env) (pos := pos) hes
    have h2 : (backTo pos (starEach xs env)).all (fun x => !x.1) = true := by
      rw [List.all_eq_true]
      intro y hy
      rw [List.any_eq_false] at h1
      have := h1 y hy
      simpa using this
    unfold methodCallForm
    rw [h2]
    simp only [List.length_nil, Nat.add_zero, Bool.true_and]
    show (true && decide _) = true
    rw [Bool.true_and, decide_eq_true_eq]
    show xs.length + 0 < 30
    omega
  have hpos : methodCallPos true x env apos pos = pure pos := by unfold methodCallPos; simp [hl]
  rw [arm_eval_Call, sup_of hs]
  unfold methodCall
  rw [hform, hpos]
  rfl
/-- x.m(..) of an instance -/
theorem meth_sound {a : E} {m : String} {x : Expr} {n : Str} {xs : List Expr} {apos pos : Pos} {es : Es} (G : CG F C Φ lv X W k) (hh : k.hot = false) (hn : n = Str.ofString m) (hf : isFld m = false) (hp : isPrp m = false) (hs : nsup x = true) (hl : (apos.endLine == pos.line) = true) (hz : xs.length < 20)
    (hes : okEs k es xs = true) (iha : SndE F C Φ X W a x) (ih : SndA F C Φ X W es xs) : SndE F C Φ X W (.mcall a m es) (.Call (.Attribute x n apos) xs [] pos) := by
  intro st g H σ env Q sr er h
  subst hn
  simp only [evE] at h
  intro pins s I
  refine PySem.W.methodCall_KW (pl := (do return (← importBound x X.env).getD true)) ?_ (ev_meth hs hes hl hz)
  have obj : wpE X x σ H (fun v H1 => ∃ d s1 g1 c fs q, d = D.ins c fs ∧ C.mky c m = some q ∧ SR F s1 g1 H1 ∧ Rep F g1 H1 d v ∧ ER F g1 H1 env σ ∧ Post F (Rep F) g1 H1 Q (WE W σ) ((evEs C Φ es env s1).bind fun ds s2 => Φ q (d :: ds) s2)) :=
    iha st g H σ env _ sr er (Post.bind h fun d s1 g1 H1 v _ sr1 x1 r1 h1 => by
      cases d with
      | ins c fs =>
        dsimp only at h1
        cases e : C.mky c m with
        | none => rw [e] at h1; exact h1.elim
        | some q => rw [e] at h1; exact ⟨_, s1, g1, c, fs, q, rfl, e, sr1, r1, er.mono sr.live x1, h1⟩
      | _ => exact h1.elim)
  refine thn (obj pins s I) fun u s1 ⟨v, H1, I1, rv, d, st1, g1, c, fs, q, ed, ek, sr1, r1, er1, h1⟩ => ?_
  subst ed
  cases r1 with
  | @ins _ _ fv ad dx ha hm hc hff rf =>
    obtain rfl : u = Value.ref ad := rv
    obtain ⟨c1, c2⟩ := G.cls c hc
    obtain ⟨fa, run, hmeth⟩ := G.mts hh c m q ek
    rw [if_neg (by rw [hp]; decide)] at hmeth
    have c1' : Cls X.K (F.ca c) := by rw [G.K]; exact c1
    have hme' : Meth X.K (F.ca c) (Str.ofString m) fa := by rw [G.K]; exact hmeth
    refine getmeth_ok I1 ha c1' hme' (RepF.none hf rf hff) ?_
    have self : ∀ {g2 : PV.G} {H2 : Hp}, Ext g1 H1 g2 H2 → Rep F g2 H2 (.ins c fs) (.ref ad) := fun x2 => (Rep.ins ha hm hc hff rf).mono sr1.live x2
    have args : wpA X xs σ H1 (fun vs H2 => ∃ ds s2 g2, SR F s2 g2 H2 ∧ Reps F g2 H2 (.ins c fs :: ds) (.ref ad :: vs) ∧ Post F (Rep F) g2 H2 Q (WE W σ) (Φ q (.ins c fs :: ds) s2)) :=
      ih st1 g1 H1 σ env _ sr1 er1 (Post.bind h1 fun ds s2 g2 H2 vs _ sr2 x2 r2 h2 => ⟨ds, s2, g2, sr2, .cons (self x2) r2, h2⟩)
    have go : ∀ us s2 vs H2, Inv X pins σ H2 s2 → Vals vs us → (∃ ds s3 g2, SR F s3 g2 H2 ∧ Reps F g2 H2 (.ins c fs :: ds) (.ref ad :: vs) ∧ Post F (Rep F) g2 H2 Q (WE W σ) (Φ q (.ins c fs :: ds) s3)) → wpAny (model X.prog X.w) X.A (call (.ref fa) (.ref ad :: us)) (EP X pins σ Q) X.xe s2 := by
      intro us s2 vs H2 I2 rv ⟨ds, s3, g2, sr2, r2, h2⟩
      refine wpAny_call (codeAny_mono (run X.A X.stack s2 H2 (.ref ad :: us) (.ref ad :: vs) Q (WE W σ) (.ins c fs :: ds) s3 g2 (G.ro hh).1 G.gd (by rw [← G.K]; exact I2.env0) (.cons rfl rv) sr2 r2 h2) fun r s' hq => ?_)
      cases r with
      | error e => exact passAt G.tk σ pins H2 s2 e s' I2 hq
      | ok fl =>
        cases fl with
        | ret u => exact I2.after hq
        | next => exact hq.elim
        | brk => exact hq.elim
        | cont => exact hq.elim
    cases es with
    | nil =>
      cases xs with
      | cons => cases hes
      | nil => exact PySem.W.callWith_K0 (first := [.ref ad]) I1.kIn hme'.kp (go [] s1 [] H1 I1 .nil ⟨[], st1, g1, sr1, .cons (self Ext.refl) .nil, h1⟩)
    | cons e es =>
      cases xs with
      | nil => cases hes
      | cons y ys =>
        have hs' := hes
        simp only [okEs, Bool.and_eq_true] at hs'
        exact PySem.W.callWith_K (first := [.ref ad]) (h₀ := X.base) I1.ok.mod.kin hme'.kp (thn (args pos pins s1 I1) fun us s2 ⟨vs, H2, I2, rv, q⟩ => ⟨I2.kIn, go us s2 vs H2 I2 rv q⟩) (star_of hs'.1.1) (star_any hs'.2)
theorem Post.nox {α β : Type} {R : PV.G → Hp → α → β → Prop} {g : PV.G} {H : Hp} {Q : β → Hp → Prop} {E E' : XK} {r : PV.R α} (h : Post F R g H Q E r.nox) : Post F R g H Q E' r := by
  cases r with
  | ok => exact h
  | exc => exact h.elim
  | bad => exact h.elim
/-- x.p, a property of an instance -/
theorem prop_sound {a : E} {m : String} {x : Expr} {n : Str} {pos : Pos} (cg : CG F C Φ lv X W k) (hh : k.hot = false) (hn : n = Str.ofString m) (hp : isPrp m = true) (hs : nsup x = true) (iha : SndE F C Φ X W a x) : SndE F C Φ X W (.prop a m) (.Attribute x n pos) := by
  intro st g H σ env Q sr er h
  subst hn
  simp only [evE] at h
  intro pins s I
  have obj : wpE X x σ H (fun v H1 => ∃ d s1 g1 c fs q, d = D.ins c fs ∧ C.mky c m = some q ∧ SR F s1 g1 H1 ∧ Rep F g1 H1 d v ∧ Post F (Rep F) g1 H1 Q (fun _ _ _ => False) (Φ q [d] s1)) :=
    iha st g H σ env _ sr er (Post.bind h fun d s1 g1 H1 v _ sr1 x1 r1 h1 => by
      cases d with
      | ins c fs =>
        dsimp only at h1
        cases e : C.mky c m with
        | none => rw [e] at h1; exact h1.elim
        | some q => rw [e] at h1; exact ⟨_, s1, g1, c, fs, q, rfl, e, sr1, r1, h1.nox⟩
      | _ => exact h1.elim)
  refine attr_of (sup_of hs _ _ _) (thn (obj pins s I) fun u s1 ⟨v, H1, I1, rv, d, st1, g1, c, fs, q, ed, ek, sr1, r1, h1⟩ => ?_)
  subst ed
  have r1' := r1
  cases r1 with
  | @ins _ _ fv ad dx ha hm hc hff rf =>
    obtain rfl : u = Value.ref ad := rv
    obtain ⟨c1, c2⟩ := cg.cls c hc
    obtain ⟨fa, run, hmm⟩ := cg.mts hh c m q ek
    rw [if_pos hp] at hmm
    obtain ⟨p, hpr⟩ := hmm
    rw [← cg.K] at c1 hpr
    obtain ⟨mA, O, _, _, _, _⟩ := ins_get I1.hok ha
    obtain ⟨od, J, _⟩ := O.look
    obtain ⟨rest, hrec⟩ := hpr.rec_
    have I2 := I1.tok (s1.toks + 1)
    have hcl : (PySem.W.clsIn X.K (F.ca c)).isSome = true := by
      obtain ⟨cd, hc, _⟩ := PySem.W.any_some c1.hd
      rw [hc]
      rfl
    refine PySem.W.get_bind I1.kIn J (PySem.W.plainGet_of (c1.get (Str.ofString m))).1 (PySem.W.findObj_data hcl hpr.at_ hpr.get hpr.tak) (PySem.W.plainGet_of (c1.get (Str.ofString m))).2 (wpAny_call (PySem.W.prop_get (s := { s1 with toks := s1.toks + 1 }) I1.kIn hrec ?_))
    refine codeAny_mono (run X.A.in1 X.stack { s1 with toks := s1.toks + 1 } H1 [.ref ad] [.ref ad] Q (fun _ _ _ => False) [.ins c fs] st1 g1 (cg.ro hh).2 cg.gd (by rw [← cg.K]; exact I2.env0.in1) (.cons rfl .nil) sr1 (.cons r1' .nil) h1) fun r s' hq => ?_
    cases r with
    | error er =>
      obtain ⟨_, _, _, _, _, _, _, _, _, _, _, _, hE⟩ := hq
      exact hE.elim
    | ok fl =>
      cases fl with
      | ret u =>
        obtain ⟨v, H', I3, rv, q3⟩ := I2.after hq
        show wpAny _ _ (handedOut u) _ _ _
        rw [PySem.W.handedOut_of (handed_of rv)]
        exact wpAny_pure ⟨v, H', I3, rv, q3⟩
      | next => exact False.elim hq
      | brk => exact False.elim hq
      | cont => exact False.elim hq
end
end PV

set_option Elab.async false
set_option linter.all false
set_option maxRecDepth 100000
set_option maxHeartbeats 2000000
namespace PV
open PySem PySem.Spec PyProof.Rows L2
theorem lookup_relab (g : Str → NameKind → NameKind) (x : Str) : ∀ l : List (Str × NameKind), (l.map fun y => (y.1, g y.1 y.2)).lookup x = (l.lookup x).map (g x)
  | [] => rfl
  | (n, kd) :: r => by
    rw [List.map_cons, List.lookup_cons, List.lookup_cons]
    cases h : x == n with
    | true =>
      have e : x = n := eq_of_beq h
      subst e
      rfl
    | false => exact lookup_relab g x r
theorem relabel_lookup (sc : Scope) (env : PySem.Env) (x : Str) : (relabel sc env).names.lookup x = (sc.names.lookup x).map fun kd => if (kd == .free && env.scope.kind == .function && env.kindOf x == some .cell) then .cell else kd := by
  rw [← lookup_relab (fun n kd => if (kd == .free && env.scope.kind == .function && env.kindOf n == some .cell) then .cell else kd) x]
  unfold relabel
  congr 1
  apply List.map_congr_left
  intro y _
  obtain ⟨n, kd⟩ := y
  dsimp only
  split <;> rfl
section
variable {F : Fx} {C : Cn} {Φ : Fe} {lv : Nat} {X : Cx} {W : WX} {k : Ck}
theorem cg_blk (G : CG F C Φ lv X W k) (hh : k.hot = false) {s : Shared} {H : Hp} {sc : Scope} {Ca : Addr} {cl : List (Str × Addr)} {fp : List Addr} :
    CG F C Φ lv (X.blk s H sc (compEnvC sc cl Ca X.env) fp) (fun _ _ _ _ => False) ⟨k.N, sc, false, k.fs⟩ where
  K := G.K
  wv := G.wv
  N := G.N
  vis := fun x h => by
    show Vis (relabel sc X.env) x
    unfold Vis
    rw [relabel_lookup]
    dsimp only at h
    cases e : sc.names.lookup x with
    | none => rw [e] at h; cases h
    | some kd =>
      rw [e] at h
      dsimp only [Option.map_some]
      split
      · exact .inr (.inl rfl)
      · cases kd <;> first | exact .inl rfl | exact .inr (.inl rfl) | exact .inr (.inr rfl) | cases h
  loc := fun x h => by
    show (relabel sc X.env).names.lookup x = some .local
    rw [relabel_lookup]
    dsimp only at h
    cases e : sc.names.lookup x with
    | none => rw [e] at h; cases h
    | some kd =>
      rw [e] at h
      cases kd <;> first | rfl | cases h
  gl := fun x h => by
    show (relabel sc X.env).names.lookup x = some .globalImplicit
    rw [relabel_lookup]
    dsimp only at h
    cases e : sc.names.lookup x with
    | none => rw [e] at h; cases h
    | some kd =>
      rw [e] at h
      cases kd <;> first | rfl | cases h
  blk := fun sc' own h => by
    have b := blkOk_by h
    rw [← G.N] at b
    refine ⟨b.kind, b.uniq, b.ix, fun y hy e => ?_, b.own⟩
    show (relabel sc X.env).names.lookup y.1 = some .cell ∨ (relabel sc X.env).names.lookup y.1 = some .free
    rw [relabel_lookup]
    rcases b.free y hy e with q | q
    · rw [q]; exact .inl rfl
    · rw [q]
      dsimp only [Option.map_some]
      split
      · exact .inl rfl
      · exact .inr rfl
  tk := takes0
  pw := PassesOwn.never
  nd := G.nd
  calm := fun _ => G.calm hh
  un := G.un
  gd := G.gd
  con := G.con
  bf := G.bf
  xcs := G.xcs
  sub := G.sub
  ro := fun _ => G.ro hh
  cls := G.cls
  mts := fun _ => G.mts hh
  fns := fun _ => G.fns hh
theorem er_set {g : G} {H : Hp} {env : DE} {σ : L2.St} (er : ER F g H env σ) {i : Nat} {d : D} {v : V} (r : Rep F g H d v) : ER F g H (env.set i (.val d)) (σ.set i (some v)) where
  len := by simp [er.len]
  val := fun j e h => by
    by_cases hj : i = j
    · subst hj
      have hl : i < env.length := by have := (List.getElem?_eq_some_iff.mp h).1; simpa using this
      rw [List.getElem?_set_self hl] at h
      cases h
      exact ⟨v, List.getElem?_set_self (by rw [← er.len]; exact hl), r⟩
    · rw [List.getElem?_set_ne hj] at h
      obtain ⟨w, h1, h2⟩ := er.val j e h
      exact ⟨w, by rw [List.getElem?_set_ne hj]; exact h1, h2⟩
  own := fun j xs h => by
    by_cases hj : i = j
    · subst hj
      have hl : i < env.length := by have := (List.getElem?_eq_some_iff.mp h).1; simpa using this
      rw [List.getElem?_set_self hl] at h
      cases h
    · rw [List.getElem?_set_ne hj] at h ⊢
      exact er.own j xs h
  uq := fun j1 j2 xs ys h1 h2 hne => by
    have nj : ∀ {j : Nat} {xs : List D}, (env.set i (Sl.val d))[j]? = some (Sl.own xs) → i ≠ j := fun {j xs} h z => by
      subst z
      have hl : i < env.length := by have := (List.getElem?_eq_some_iff.mp h).1; simpa using this
      rw [List.getElem?_set_self hl] at h
      cases h
    have n1 := nj h1
    have n2 := nj h2
    rw [List.getElem?_set_ne n1] at h1 ⊢
    rw [List.getElem?_set_ne n2] at h2 ⊢
    exact er.uq j1 j2 xs ys h1 h2 hne
  nod := fun j kvs h => by
    by_cases hj : i = j
    · subst hj
      have hl : i < env.length := by have := (List.getElem?_eq_some_iff.mp h).1; simpa using this
      rw [List.getElem?_set_self hl] at h
      cases h
    · rw [List.getElem?_set_ne hj] at h
      exact er.nod j kvs h
  slf := fun j c fs h => by
    by_cases hj : i = j
    · subst hj
      have hl : i < env.length := by have := (List.getElem?_eq_some_iff.mp h).1; simpa using this
      rw [List.getElem?_set_self hl] at h
      cases h
    · rw [List.getElem?_set_ne hj] at h ⊢
      exact er.slf j c fs h
/-- a comprehension's turns -/
theorem compL_take {f : D → S → R D} : ∀ {xs : List D} {st s2 : S} {ds : List D}, compL f xs st = .ok ds s2 → ds.length = xs.length
  | [], _, _, _, h => by cases h; rfl
  | x :: xs, st, s2, ds, h => by
    simp only [compL] at h
    split at h
    · split at h
      · cases h
        rename_i e
        simp [compL_take e]
      · cases h
    · cases h
end
end PV

set_option Elab.async false
set_option linter.all false
set_option maxRecDepth 100000
set_option maxHeartbeats 2000000
namespace PV
open PySem PySem.Spec PyProof.Rows L2
section
variable {F : Fx} {C : Cn} {Φ : Fe} {lv : Nat} {X : Cx} {W : WX} {k : Ck}
/-- a walked thing stands still -/
theorem walk_still {d : D} {x : V} {xs : List D} {g : G} {H : Hp} {st : S} (hK : X.K = F.K) (h : itemsD [] d = some xs) (s : SR F st g H) (rd : Rep F g H d x) :
    ∃ a vs, x = .ref a ∧ Reps F g H xs vs ∧ (((∃ ys, d = .tup ys) ∧ ∀ g' H', Ext g H g' H' → SqT X.K H' a vs) ∨ ((∀ ys, d ≠ .tup ys) ∧ ∀ g' H', Ext g H g' H' → SqL X.K H' a vs)) := by
  unfold itemsD at h
  split at h
  · cases h
    cases rd with
    | tup t r => exact ⟨_, _, rfl, r, .inl ⟨⟨_, rfl⟩, fun g' H' x => by rw [hK]; exact (t.wk (x.wk s.live)).sq⟩⟩
  · cases h
    cases rd with
    | lst t r => exact ⟨_, _, rfl, r, .inr ⟨nofun, fun g' H' x => by rw [hK]; exact (t.wk (x.wk s.live)).sq⟩⟩
  · cases h
    cases rd with
    | scr t => exact ⟨_, _, rfl, reps_ints _, .inr ⟨nofun, fun g' H' x => by rw [hK]; exact (t.wk (x.wk s.live)).sq⟩⟩
  · simp at h
  · cases h
/-- in every block of a comprehension -/
def blkT (X : Cx) (sc : Scope) (e : Expr) : TE := fun σ H Q => ∀ s0 H0 Ca cl fp, wpE (X.blk s0 H0 sc (compEnvC sc cl Ca X.env) fp) e σ H Q
theorem wipe1 {σ : L2.St} {i : Nat} {v : V} : (wipe σ [i]).set i (some v) = σ.set i (some v) := by
  show (σ.set i none).set i (some v) = _
  rw [List.set_set]
theorem wipe2 {σ : L2.St} {i : Nat} {v : V} : wipe (σ.set i (some v)) [i] = wipe σ [i] := by
  show (σ.set i (some v)).set i none = σ.set i none
  rw [List.set_set]
theorem mu_of_none {g : G} {H : Hp} {st : S} {p : Addr} (s : SR F st g H) (hp : H p = none) : ∀ i, g.mu i ≠ some p := fun i e => s.notM hp (s.live i p e)
theorem comp_core {el it : E} {i : Nat} {x : Str} {e y : Expr} {sc : Scope} {px : Pos} (cg : CG F C Φ lv X W k) (hh : k.hot = false) (hi : k.N[i]? = some x) (hb : blkC k.N k.sc sc [(x, i)] = true) (hl : isLoc (sc.names.lookup x) = true)
    (hset : ∀ v, foldedSetIterable y X.env v = pure v) (ihit : SndE F C Φ X W it y)
    (ihel : ∀ s H Ca cl fp, SndE F C Φ (X.blk s H sc (compEnvC sc cl Ca X.env) fp) (fun _ _ _ _ => False) el e) :
    ∀ (st : S) (g : G) (H : Hp) (σ : L2.St) (env : DE) (Q : VK), SR F st g H → ER F g H env σ → Post F (Rep F) g H Q (WE W σ) (evE C Φ (.comp el i it) env st) → ∃ wi, PI X (.Name x px) y wi ∧ tLc wi (gName i) tYes (blkT X sc e) [i] σ H Q := by
  intro st g H σ env Q sr er h
  simp only [evE] at h
  have hNi : X.N[i]? = some x := by rw [cg.N]; exact hi
  -- the turns, over any walked thing
  have turns : ∀ (d : D) (xs : List D) (s1 : S) (g1 : G) (H1 : Hp) (vs : List V) (Dd : Addr), itemsD [] d = some xs → SR F s1 g1 H1 → Ext g H g1 H1 → Reps F g1 H1 xs vs → H1 Dd = none →
      Post F (Rep F) g1 H1 Q (WE W σ) ((compL (fun d s => evE C Φ el (env.set i (.val d)) s) xs s1).bind fun ds s2 => if ds.length ≤ sizeLine then .ok (.lst ds) s2 else .bad) →
      ∃ Pv : Nat → Hp → Prop, Pv 0 (upd H1 Dd (.lst [])) ∧ (∀ j H', Pv j H' → ∃ g', Ext g1 H1 g' H') ∧
        (∀ j v H', vs[j]? = some v → Pv j H' → gName i v (wipe σ [i]) H' fun σ2 H2 => wipe σ2 [i] = wipe σ [i] ∧ tYes σ2 H2 fun b H3 =>
          if b = true then (blkT X sc e) σ2 H3 fun yv H4 => ∃ acc, H4 Dd = some (.lst acc) ∧ acc.length < sizeLine ∧ Pv (j + 1) (upd H4 Dd (.lst (acc ++ [yv]))) else Pv (j + 1) H3) ∧
        ∀ H', Pv vs.length H' → Q (.ref Dd) H' := by
    intro d xs s1 g1 H1 vs Dd hxs sr1 x1 rv hD hp
    cases hc : compL (fun d s => evE C Φ el (env.set i (.val d)) s) xs s1 with
    | bad => rw [hc] at hp; exact hp.elim
    | exc ex s2 =>
      exfalso
      have : ∀ (f : D → S → R D) (xs : List D) (s : S) (ex : XD) (s' : S), compL f xs s ≠ .exc ex s' := by
        intro f xs
        induction xs with
        | nil => intro s ex s' h; cases h
        | cons a r ihx =>
          intro s ex s' h
          simp only [compL] at h
          split at h
          · split at h <;> cases h
          · cases h
      exact this _ _ _ _ _ hc
    | ok ds s2 =>
      rw [hc] at hp
      simp only [R.bind_ok] at hp
      by_cases hz : ds.length ≤ sizeLine
      · rw [if_pos hz] at hp
        refine ⟨fun j H' => ∃ g' st' acc vs', SR F st' g' H' ∧ Ext g1 H1 g' H' ∧ H' Dd = some (.lst vs') ∧ Reps F g' H' acc vs' ∧ g'.M Dd ∧ (∀ i, g'.mu i ≠ some Dd) ∧ ∃ rest, compL (fun d s => evE C Φ el (env.set i (.val d)) s) (xs.drop j) st' = .ok rest s2 ∧ acc ++ rest = ds, ?_, ?_, ?_, ?_⟩
        · exact ⟨g1.own Dd, s1, [], [], sr1.own hD, ext_own sr1 hD, upd_same, .nil, .inl rfl, (show ∀ i, g1.mu i ≠ some Dd from mu_of_none sr1 hD), ds, hc, rfl⟩
        · rintro j H' ⟨g', _, _, _, _, x', _⟩
          exact ⟨g', x'⟩
        · rintro j v H' hv ⟨g', st', acc, vs', sr', x', hD', ra, hm, hmu, rest, hr, hd⟩
          obtain ⟨dj, hj, rj⟩ := rv.get' hv
          have hdrop : xs.drop j = dj :: xs.drop (j + 1) := by
            obtain ⟨hl, e1⟩ := List.getElem?_eq_some_iff.mp hj
            rw [← e1]
            exact List.drop_eq_getElem_cons hl
          rw [hdrop] at hr
          simp only [compL] at hr
          cases hf : evE C Φ el (env.set i (.val dj)) st' with
          | bad => rw [hf] at hr; cases hr
          | exc ex s => rw [hf] at hr; cases hr
          | ok yd s3 =>
            rw [hf] at hr
            dsimp only at hr
            cases hf2 : compL (fun d s => evE C Φ el (env.set i (.val d)) s) (xs.drop (j + 1)) s3 with
            | bad => rw [hf2] at hr; cases hr
            | exc ex s => rw [hf2] at hr; cases hr
            | ok rest' s4 =>
              rw [hf2] at hr
              cases hr
              refine ⟨?_, ?_⟩
              · rw [wipe1]; exact wipe2
              · unfold tYes
                dsimp only
                rw [if_pos rfl, wipe1]
                intro s0 H0 Ca cl fp
                have er' : ER F g' H' (env.set i (.val dj)) (σ.set i (some v)) := er_set (er.mono sr.live (x1.trans x')) (rj.mono sr1.live x')
                refine ihel s0 H0 Ca cl fp st' g' H' (σ.set i (some v)) (env.set i (.val dj)) _ sr' er' ?_
                rw [hf]
                intro g4 H4 v4 sr4 x4 r4
                have hD4 := x4.keep Dd _ hD' hmu
                have hm4 := x4.gh Dd hm
                have hmu4 : ∀ i, g4.mu i ≠ some Dd := fun i e => by
                  rcases x4.nw i Dd e with q | q
                  · exact hmu i q
                  · rw [hD'] at q; cases q
                refine ⟨vs', hD4, ?_, g4, s3, acc ++ [yd], vs' ++ [v4], sr4.wr hm4 hmu4, (x'.trans x4).wr hD, upd_same, ?_, hm4, hmu4, rest', hf2, by rw [List.append_assoc]; exact hd⟩
                · rw [← ra.length]
                  rw [← hd] at hz
                  simp at hz
                  omega
                · exact ((ra.mono sr'.live x4).wk (wk_wr hm4)).append (.cons (r4.wk (wk_wr hm4)) .nil)
        · rintro H' ⟨g', st', acc, vs', sr', x', hD', ra, hm, hmu, rest, hr, hd⟩
          rw [← rv.length, List.drop_length] at hr
          cases hr
          rw [List.append_nil] at hd
          subst hd
          exact hp (g'.free Dd) H' (.ref Dd) (sr'.free hmu) (x'.free (sr1.notM hD)) (.lst ⟨hD', fun z => z.2 rfl⟩ (ra.wk wk_free))
      · rw [if_neg hz] at hp; exact hp.elim
  -- which walk
  by_cases ht : ∃ ys s1, evE C Φ it env st = .ok (.tup ys) s1
  · obtain ⟨ys, s1, hr⟩ := ht
    refine ⟨_, pi_tup pe_wp, ?_⟩
    refine ihit st g H σ env _ sr er (Post.bind h fun d s1' g1 H1 v hd sr1 x1 rv hp => ?_)
    rw [hr] at hd
    cases hd
    simp only [itemsD] at hp
    cases rv with
    | tup t r =>
      refine ⟨_, rfl, ⟨_, by rw [cg.K]; exact t.sq⟩, fun Dd hD => ?_⟩
      obtain ⟨Pv, p0, pl, ps, pd⟩ := turns (.tup ys) ys s1 g1 H1 _ Dd rfl sr1 x1 r hD hp
      exact lc_tup (K := X.K) (g := gName i) (tt := tYes) (te := blkT X sc e) (vs := [i]) (σ := σ) Pv p0 (fun j H' _ hP => by
        obtain ⟨g', x'⟩ := pl j H' hP
        rw [cg.K]
        exact (t.wk (x'.wk sr1.live)).sq) ps pd
  · refine ⟨_, pi_list pe_wp, ?_⟩
    refine ihit st g H σ env _ sr er (Post.bind h fun d s1 g1 H1 v hd sr1 x1 rv hp => ?_)
    cases hx : itemsD [] d with
    | none => rw [hx] at hp; exact hp.elim
    | some xs =>
      rw [hx] at hp
      obtain ⟨a, vs, rfl, r, ⟨⟨ys, e1⟩, _⟩ | ⟨_, sq⟩⟩ := walk_still cg.K hx sr1 rv
      · exact absurd ⟨ys, s1, e1 ▸ hd⟩ ht
      · refine ⟨_, rfl, ⟨_, sq g1 H1 Ext.refl⟩, fun Dd hD => ?_⟩
        obtain ⟨Pv, p0, pl, ps, pd⟩ := turns d xs s1 g1 H1 _ Dd hx sr1 x1 r hD hp
        exact lc_list (K := X.K) (a := a) (g := gName i) (tt := tYes) (te := blkT X sc e) (vs := [i]) (σ := σ) Pv p0 (fun j H' _ hP => by
          obtain ⟨g', x'⟩ := pl j H' hP
          exact sq g' H' x') ps pd
theorem comp_sound {el it : E} {i : Nat} {x : Str} {e y : Expr} {sc : Scope} {px pos : Pos} (cg : CG F C Φ lv X W k) (hh : k.hot = false) (hi : k.N[i]? = some x) (hb : blkC k.N k.sc sc [(x, i)] = true) (hl : isLoc (sc.names.lookup x) = true)
    (hset : ∀ v, foldedSetIterable y X.env v = pure v) (ihit : SndE F C Φ X W it y)
    (ihel : ∀ s H Ca cl fp, SndE F C Φ (X.blk s H sc (compEnvC sc cl Ca X.env) fp) (fun _ _ _ _ => False) el e) :
    SndE F C Φ X W (.comp el i it) (.ListComp e [⟨.Name x px, y, [], 0⟩] sc pos) := by
  intro st g H σ env Q sr er h
  have hNi : X.N[i]? = some x := by rw [cg.N]; exact hi
  have lc : ∀ {wi : TI}, PI X (.Name x px) y wi → PE X (.ListComp e [⟨.Name x px, y, [], 0⟩] sc pos) (tLc wi (gName i) tYes (blkT X sc e) [i]) := fun {wi} hpi =>
    pe_lc (own := [(x, i)]) (cg.calm hh) cg.nd hpi (cg.blk sc _ hb)
      (fun s H Ca cl fp => pg_name (i := i) cg.nd hNi (.inl ((cg_blk cg hh (s := s) (H := H) (Ca := Ca) (cl := cl) (fp := fp)).loc x hl)) (.inr ((cg_blk cg hh (s := s) (H := H) (Ca := Ca) (cl := cl) (fp := fp)).loc x hl)))
      (fun _ _ _ _ _ => pts_nil) (fun s H Ca cl fp => ⟨fun pins s1 σ1 H1 Q1 I q => q s H Ca cl fp pins s1 I⟩) hset
  obtain ⟨wi, h1, h2⟩ := comp_core (px := px) cg hh hi hb hl hset ihit ihel st g H σ env Q sr er h
  exact wp_e (lc h1) h2
/-- y = [..] -/
theorem comp_set {el it : E} {i n : Nat} {x yn : Str} {e y : Expr} {sc : Scope} {px pos py spos : Pos} (cg : CG F C Φ lv X W k) (hh : k.hot = false) (hi : k.N[i]? = some x) (hb : blkC k.N k.sc sc [(x, i)] = true) (hl : isLoc (sc.names.lookup x) = true)
    (hset : ∀ v, foldedSetIterable y X.env v = pure v) (hn : X.N[n]? = some yn) (hyl : X.env.scope.names.lookup yn = some .local)
    (hsw : swapsWith (.ListComp e [⟨.Name x px, y, [], 0⟩] sc pos) (some (.Name yn py)) spos.line X.env = pure true) {wi : TI} (h1 : PI X (.Name x px) y wi) :
    PS X (.Assign [.Name yn py] (.ListComp e [⟨.Name x px, y, [], 0⟩] sc pos) spos) (tAsg (tLc wi (gName i) tYes (blkT X sc e) [i]) (gName n)) := by
  have hNi : X.N[i]? = some x := by rw [cg.N]; exact hi
  exact ps_setLc (own := [(x, i)]) (cg.calm hh) cg.nd hn hyl hsw h1 (cg.blk sc _ hb)
      (fun s H Ca cl fp => pg_name (i := i) cg.nd hNi (.inl ((cg_blk cg hh (s := s) (H := H) (Ca := Ca) (cl := cl) (fp := fp)).loc x hl)) (.inr ((cg_blk cg hh (s := s) (H := H) (Ca := Ca) (cl := cl) (fp := fp)).loc x hl)))
      (fun _ _ _ _ _ => pts_nil) (fun s H Ca cl fp => ⟨fun pins s1 σ1 H1 Q1 I q => q s H Ca cl fp pins s1 I⟩) hset
/-! ### what is walked, of any kind -/
/-- J walks the items xs, as long as what stands now stays -/
def WkI (F : Fx) (g1 : G) (H1 : Hp) (xs : List D) (J : It) : Prop :=
  ∃ (Gd : Hp → Prop) (Y : Nat → Hp → V → Hp → Prop) (P : G → Hp → Prop), Walk J xs.length Gd Y ∧ (∀ g H g' H', Wk g H g' H' → P g H → P g' H') ∧ P g1 H1 ∧ (∀ g H, P g H → Gd H) ∧
    ∀ (i : Nat) (st : S) (g : G) (H : Hp) (x : V) (H' : Hp), i < xs.length → P g H → SR F st g H → Y i H x H' → SR F st g H' ∧ Ext g H g H' ∧ ∃ d, xs[i]? = some d ∧ Rep F g H' d x
theorem wki_list {g : G} {H : Hp} {a : Addr} {xs : List D} {vs : List V} (K : PySem.W.Frag) (P : G → Hp → Prop) (sp : ∀ g H g' H', Wk g H g' H' → P g H → P g' H') (h : P g H) (hq : ∀ g H, P g H → SqL K H a vs) (hr : ∀ g H, P g H → Reps F g H xs vs) : WkI F g H xs (Itl K a) := by
  refine ⟨_, _, P, (hr g H h).length ▸ walk_list, sp, h, hq, fun i st g H x H' hi hp sr y => ?_⟩
  obtain ⟨rfl, e⟩ := y
  obtain ⟨d, h1, h2⟩ := (hr g H' hp).get' e
  exact ⟨sr, Ext.refl, d, h1, h2⟩
theorem wki_tup {g : G} {H : Hp} {a : Addr} {xs : List D} {vs : List V} (K : PySem.W.Frag) (P : G → Hp → Prop) (sp : ∀ g H g' H', Wk g H g' H' → P g H → P g' H') (h : P g H) (hq : ∀ g H, P g H → SqT K H a vs) (hr : ∀ g H, P g H → Reps F g H xs vs) : WkI F g H xs (Itt K a) := by
  refine ⟨_, _, P, (hr g H h).length ▸ walk_tup, sp, h, hq, fun i st g H x H' hi hp sr y => ?_⟩
  obtain ⟨rfl, e⟩ := y
  obtain ⟨d, h1, h2⟩ := (hr g H' hp).get' e
  exact ⟨sr, Ext.refl, d, h1, h2⟩
theorem wki_str {g : G} {H : Hp} {z : Str} : WkI F g H (z.cps.toList.map fun c => .str ⟨#[c]⟩) (Its z) := by
  have e : (z.cps.toList.map fun c => D.str ⟨#[c]⟩).length = z.cps.size := by rw [List.length_map, Array.length_toList]
  refine ⟨_, _, fun _ _ => True, e ▸ walk_str, fun _ _ _ _ _ h => h, trivial, fun _ _ h => h, fun i st g H x H' hi hp sr y => ?_⟩
  obtain ⟨rfl, c, h1, rfl⟩ := y
  refine ⟨sr, Ext.refl, .str ⟨#[c]⟩, ?_, .str _⟩
  rw [List.getElem?_map, Array.getElem?_toList, h1]
  rfl
theorem Walk.len {J : It} {n m : Nat} {Gd : Hp → Prop} {Y : Nat → Hp → V → Hp → Prop} (h : m = n) (w : Walk J n Gd Y) : Walk J m Gd Y := by subst h; exact w
theorem wki_rng {g : G} {H : Hp} {lo : Int} {n : Nat} : WkI F g H (rngD lo n) (Itr lo n) := by
  have e : (rngD lo n).length = n := by unfold rngD; rw [List.length_map, List.length_range]
  refine ⟨_, _, fun _ _ => True, PV.Walk.len e walk_range, fun _ _ _ _ _ h => h, trivial, fun _ _ h => h, fun i st g H x H' hi hp sr y => ?_⟩
  obtain ⟨rfl, rfl⟩ := y
  refine ⟨sr, Ext.refl, .int (lo + (i : Int)), ?_, .int _⟩
  unfold rngD
  rw [List.getElem?_map, List.getElem?_range (by omega)]
  rfl
theorem enum_get : ∀ (xs : List D) (n i : Nat), (enumD n xs)[i]? = xs[i]?.map fun x => .tup [.int ((n + i : Nat) : Int), x]
  | [], n, i => by simp [enumD]
  | x :: xs, n, 0 => by simp [enumD]
  | x :: xs, n, i + 1 => by
    show (enumD (n + 1) xs)[i]? = _
    rw [enum_get xs (n + 1) i, List.getElem?_cons_succ, show n + 1 + i = n + (i + 1) from by omega]
theorem enum_len : ∀ (xs : List D) (n : Nat), (enumD n xs).length = xs.length
  | [], n => rfl
  | x :: xs, n => congrArg Nat.succ (enum_len xs (n + 1))
theorem wki_enum {g : G} {H : Hp} {a : Addr} {xs : List D} {vs : List V} (K : PySem.W.Frag) (P : G → Hp → Prop) (sp : ∀ g H g' H', Wk g H g' H' → P g H → P g' H') (h : P g H) (hq : ∀ g H, P g H → SqL K H a vs) (hr : ∀ g H, P g H → Reps F g H xs vs) : WkI F g H (enumD 0 xs) (Ite K a) := by
  refine ⟨_, _, P, (enum_len xs 0).symm ▸ (hr g H h).length ▸ walk_enum, sp, h, hq, fun i st g H x H' hi hp sr y => ?_⟩
  obtain ⟨T, u, v, rfl, hn, rfl, e1, e2⟩ := y
  cases e1
  obtain ⟨d, h1, h2⟩ := (hr g H hp).get' e2
  refine ⟨sr.new hn, ext_new hn, .tup [.int ((0 + i : Nat) : Int), d], by rw [enum_get, h1]; rfl, ?_⟩
  rw [Nat.zero_add]
  exact rep_tup_new sr hn (.cons (.int _) (.cons h2 .nil))
theorem zip_get : ∀ (xs ys : List D) (i : Nat) (x y : D), xs[i]? = some x → ys[i]? = some y → (zipD xs ys)[i]? = some (.tup [x, y])
  | x :: xs, y :: ys, 0, _, _, h1, h2 => by cases h1; cases h2; rfl
  | x :: xs, y :: ys, i + 1, a, b, h1, h2 => zip_get xs ys i a b h1 h2
  | [], _, i, _, _, h, _ => by simp at h
  | _ :: _, [], i, _, _, _, h => by simp at h
theorem zip_len : ∀ (xs ys : List D), (zipD xs ys).length = min xs.length ys.length
  | x :: xs, y :: ys => by simp [zipD, zip_len xs ys]
  | [], ys => by simp [zipD]
  | x :: xs, [] => by simp [zipD]
theorem wki_zip {g : G} {H : Hp} {a b : Addr} {xs ys : List D} {vs ws : List V} (K : PySem.W.Frag) (P : G → Hp → Prop) (sp : ∀ g H g' H', Wk g H g' H' → P g H → P g' H') (h : P g H) (hq : ∀ g H, P g H → SqL K H a vs ∧ SqL K H b ws) (hr : ∀ g H, P g H → Reps F g H xs vs ∧ Reps F g H ys ws) : WkI F g H (zipD xs ys) (Itz K a b) := by
  refine ⟨_, _, P, walk_zip (by rw [zip_len, (hr g H h).1.length, (hr g H h).2.length]), sp, h, hq, fun i st g H x H' hi hp sr y => ?_⟩
  obtain ⟨T, u, v, rfl, hn, rfl, e1, e2⟩ := y
  obtain ⟨d, h1, h2⟩ := (hr g H hp).1.get' e1
  obtain ⟨d', h3, h4⟩ := (hr g H hp).2.get' e2
  exact ⟨sr.new hn, ext_new hn, _, zip_get _ _ _ _ _ h1 h3, rep_tup_new sr hn (.cons h2 (.cons h4 .nil))⟩
/-! ### targets of names -/
def setsV : List Nat → List V → L2.St → L2.St
  | i :: is, v :: vs, σ => setsV is vs (σ.set i (some v))
  | _, _, σ => σ
def setsD : List Nat → List D → DE → DE
  | i :: is, d :: ds, env => setsD is ds (env.set i (.val d))
  | _, _, env => env
theorem setsV_len : ∀ (is : List Nat) (vs : List V) (σ : L2.St), (setsV is vs σ).length = σ.length
  | i :: is, v :: vs, σ => by rw [setsV, setsV_len is vs, List.length_set]
  | [], _, _ => rfl
  | _ :: _, [], _ => rfl
theorem setsV_out : ∀ (is : List Nat) (vs : List V) (σ : L2.St) (j : Nat), j ∉ is → (setsV is vs σ)[j]? = σ[j]?
  | i :: is, v :: vs, σ, j, h => by
    rw [List.mem_cons, not_or] at h
    rw [setsV, setsV_out is vs _ j h.2, List.getElem?_set_ne (fun e => h.1 e.symm)]
  | [], _, _, _, _ => rfl
  | _ :: _, [], _, _, _ => rfl
theorem setsV_same : ∀ (is : List Nat) (vs : List V) (σ τ : L2.St), is.length = vs.length → σ.length = τ.length → (∀ j, j ∉ is → σ[j]? = τ[j]?) → setsV is vs σ = setsV is vs τ
  | [], [], σ, τ, _, _, h => List.ext_getElem? fun j => h j (fun z => nomatch z)
  | i :: is, v :: vs, σ, τ, hl, hs, h => by
    refine setsV_same is vs _ _ (Nat.succ.inj hl) (by rw [List.length_set, List.length_set, hs]) fun j hj => ?_
    by_cases e : i = j
    · subst e
      rw [List.getElem?_set, List.getElem?_set, hs, if_pos rfl, if_pos rfl]
    · rw [List.getElem?_set_ne e, List.getElem?_set_ne e]
      exact h j (by rw [List.mem_cons, not_or]; exact ⟨fun z => e z.symm, hj⟩)
  | [], _ :: _, _, _, hl, _, _ => by cases hl
  | _ :: _, [], _, _, hl, _, _ => by cases hl
theorem wipe_at : ∀ (is : List Nat) (σ : L2.St) (j : Nat), (wipe σ is)[j]? = if j ∈ is ∧ j < σ.length then some none else σ[j]?
  | [], σ, j => by simp [wipe]
  | i :: is, σ, j => by
    show ((wipe σ is).set i none)[j]? = _
    rw [List.getElem?_set, wipe_length]
    by_cases e : i = j
    · subst e
      by_cases hl : i < σ.length
      · simp [hl]
      · rw [if_pos rfl, if_neg hl, if_neg (fun z => hl z.2), List.getElem?_eq_none (by omega)]
    · rw [if_neg e, wipe_at is σ j]
      by_cases hj : j ∈ is
      · simp [hj]
      · rw [if_neg (fun z => hj z.1), if_neg]
        rintro ⟨z, _⟩
        rcases List.mem_cons.mp z with z | z
        · exact e z.symm
        · exact hj z
theorem wipe_same {is : List Nat} {σ τ : L2.St} (hs : σ.length = τ.length) (h : ∀ j, j ∉ is → σ[j]? = τ[j]?) : wipe σ is = wipe τ is := by
  refine List.ext_getElem? fun j => ?_
  rw [wipe_at, wipe_at, hs]
  by_cases e : j ∈ is ∧ j < τ.length
  · rw [if_pos e, if_pos e]
  · rw [if_neg e, if_neg e]
    by_cases hj : j ∈ is
    · have hl : ¬ j < τ.length := fun z => e ⟨hj, z⟩
      rw [List.getElem?_eq_none (by omega), List.getElem?_eq_none (by omega)]
    · exact h j hj
theorem wipe_sets {is : List Nat} {vs : List V} {σ : L2.St} : wipe (setsV is vs (wipe σ is)) is = wipe σ is := by
  have h1 : wipe (setsV is vs (wipe σ is)) is = wipe (wipe σ is) is := wipe_same (setsV_len _ _ _) fun j hj => setsV_out _ _ _ j hj
  have h2 : wipe (wipe σ is) is = wipe σ is := wipe_same (wipe_length _ _) fun j hj => by rw [wipe_at, if_neg (fun z => hj z.1)]
  rw [h1, h2]
theorem sets_wipe {is : List Nat} {vs : List V} {σ : L2.St} (hl : is.length = vs.length) : setsV is vs (wipe σ is) = setsV is vs σ :=
  setsV_same is vs _ _ hl (wipe_length _ _) fun j hj => by rw [wipe_at, if_neg (fun z => hj z.1)]
theorem er_sets {g : G} {H : Hp} : ∀ {is : List Nat} {ds : List D} {vs : List V} {env : DE} {σ : L2.St}, ER F g H env σ → Reps F g H ds vs → ER F g H (setsD is ds env) (setsV is vs σ)
  | [], _, _, _, _, er, _ => er
  | _ :: _, _, _, _, _, er, .nil => er
  | i :: is, _, _, _, _, er, .cons r t => er_sets (is := is) (er_set er r) t
/-- a target of names: the slots, the values -/
def tgV : Tg → D → Option (List D)
  | .nm _, d => some [d]
  | .tup _, .tup ds => some ds
  | .tup _, _ => none
theorem bind_names : ∀ {ts : Tgs} {es : List Expr} {own : List (Str × Nat)} {ds : List D} {env env' : DE}, tgNsL ts es = some own → bindTs ts ds env = some env' → ds.length = own.length ∧ env' = setsD (own.map (·.2)) ds env
  | .nil, [], own, [], env, env', h, hb => by cases h; cases hb; exact ⟨rfl, rfl⟩
  | .nil, [], own, _ :: _, env, env', h, hb => by cases hb
  | .cons (.nm i) ts, .Name x p :: es, own, [], env, env', h, hb => by cases hb
  | .cons (.nm i) ts, .Name x p :: es, own, d :: ds, env, env', h, hb => by
    simp only [tgNsL] at h
    cases e : tgNsL ts es with
    | none => rw [e] at h; cases h
    | some r =>
      rw [e] at h
      cases h
      simp only [bindTs, bindT] at hb
      obtain ⟨h1, h2⟩ := bind_names e hb
      exact ⟨by simp [h1], h2⟩
theorem names_G {X' : Cx} (nd : X'.N.Nodup) : ∀ {ts : Tgs} {es : List Expr} {own : List (Str × Nat)}, tgNsL ts es = some own → (∀ q ∈ own, X'.N[q.2]? = some q.1 ∧ X'.env.scope.names.lookup q.1 = some .local) →
    (assignEach es X'.env).length = es.length ∧ (assignEach es X'.env).findIdx? (·.1) = none ∧ es.length = own.length ∧ PGs X' es (fun vs σ H Q => vs.length = own.length ∧ Q (setsV (own.map (·.2)) vs σ) H)
  | .nil, [], own, h, _ => by
    cases h
    refine ⟨rfl, rfl, rfl, ⟨fun pins s σ H vs us Q I r h => ?_⟩⟩
    have : vs = [] := List.length_eq_zero_iff.mp h.1
    subst this
    exact pgs_nil.run pins s σ H [] us Q I r ⟨rfl, h.2⟩
  | .cons (.nm i) ts, .Name x p :: es, own, h, hl => by
    simp only [tgNsL] at h
    cases e : tgNsL ts es with
    | none => rw [e] at h; cases h
    | some r =>
      rw [e] at h
      cases h
      obtain ⟨h1, h2, h3, h4⟩ := names_G nd e fun q hq => hl q (List.mem_cons_of_mem _ hq)
      obtain ⟨n1, n2⟩ := hl (x, i) List.mem_cons_self
      have ea : assignEach (.Name x p :: es) X'.env = (false, assign (.Name x p) X'.env) :: assignEach es X'.env := rfl
      refine ⟨by rw [ea]; simp [h1], by rw [ea, List.findIdx?_cons, h2]; rfl, by simp [h3], ⟨fun pins s σ H vs us Q I rr h => ?_⟩⟩
      match vs, h with
      | v :: vs, h =>
        refine (pgs_cons (pg_name (i := i) nd n1 (.inl n2) (.inr n2)) h4 rfl).run pins s σ H (v :: vs) us Q I rr ⟨v, vs, rfl, ?_⟩
        exact ⟨Nat.succ.inj h.1, h.2⟩
      | [], h => cases h.1
def wpG (X : Cx) (t : Expr) : TG := fun v σ H Q => ∀ pins sh u, Inv X pins σ H sh → RelV v u → wpAny (model X.prog X.w) X.A (assign t X.env u) (fun _ s' => ∃ σ' H', Inv X pins σ' H' s' ∧ Q σ' H') X.xe sh
theorem pg_wp {X : Cx} {tg : Expr} : PG X tg (wpG X tg) := ⟨fun pins s _ _ _ u _ I r h => h pins s u I r⟩
theorem wp_g {X : Cx} {tg : Expr} {σ : L2.St} {H : Hp} {t : TG} (h : PG X tg t) {v : V} {Q : L2.St → Hp → Prop} (q : t v σ H Q) : wpG X tg v σ H Q := fun pins s u I r => h.run pins s σ H v u Q I r q
def blkG (X : Cx) (sc : Scope) (tg : Expr) : TG := fun v σ H Q => ∀ s0 H0 Ca cl fp, wpG (X.blk s0 H0 sc (compEnvC sc cl Ca X.env) fp) tg v σ H Q
def blkTs (X : Cx) (sc : Scope) : List Expr → TT
  | [] => tYes
  | x :: _ => fun σ H Q => ∀ s0 H0 Ca cl fp, wpT (X.blk s0 H0 sc (compEnvC sc cl Ca X.env) fp) x σ H Q
theorem tgt_blk {X' : Cx} {W' : WX} {k' : Ck} {Φ' : Fe} (cg : CG F C Φ' lv X' W' k') (hc : X'.calm = true) {t : Tg} {tg : Expr} {own : List (Str × Nat)} {d : D} {v : V} {env env' : DE} {g : G} {H : Hp} (h : tgNs t tg = some own) (hl : ∀ q ∈ own, X'.N[q.2]? = some q.1 ∧ X'.env.scope.names.lookup q.1 = some .local)
    (hb : bindT t d env = some env') (rv : Rep F g H d v) : ∃ ds vs, env' = setsD (own.map (·.2)) ds env ∧ Reps F g H ds vs ∧ own.length = ds.length ∧ ∀ (σ : L2.St) (Q : L2.St → Hp → Prop), Q (setsV (own.map (·.2)) vs σ) H → wpG X' tg v σ H Q := by
  cases t with
  | nm i =>
    cases tg <;> first | cases h | skip
    rename_i x p
    obtain ⟨n1, n2⟩ := hl (x, i) List.mem_cons_self
    simp only [bindT, Option.some.injEq] at hb
    subst hb
    exact ⟨[d], [v], rfl, .cons rv .nil, rfl, fun σ Q q => wp_g (pg_name (i := i) cg.nd n1 (.inl n2) (.inr n2)) q⟩
  | tup ts =>
    cases tg <;> first | cases h | skip
    rename_i es j pos
    cases rv with
    | @tup xs vs a ta r =>
      simp only [bindT] at hb
      obtain ⟨l1, l2, l3, l4⟩ := names_G (X' := X') cg.nd h hl
      obtain ⟨e1, e2⟩ := bind_names h hb
      refine ⟨xs, vs, e2, r, e1.symm, fun σ Q q => wp_g (pg_tup hc l4 l1 l2) ⟨a, vs, rfl, by rw [cg.K]; exact ta.sq, by rw [← r.length, e1, l3], by rw [← r.length, e1], q⟩⟩
    | _ => simp [bindT] at hb
abbrev SndI (F : Fx) (C : Cn) (Φ : Fe) (X : Cx) (W : WX) (i : I) (ix : Expr) : Prop :=
  ∀ (tg : Expr) (st : S) (g : G) (H : Hp) (σ : L2.St) (env : DE) (R : It → Hp → Prop), itTg i tg = true → SR F st g H → ER F g H env σ → Post F (WkI F) g H R (WE W σ) (evI C Φ i env st) → ∃ wi, PI X tg ix wi ∧ wi σ H R
theorem compI_core {el : E} {t : Tg} {it : I} {c : To} {tg y e : Expr} {ifs : List Expr} {sc : Scope} {own : List (Str × Nat)} (cg : CG F C Φ lv X W k) (hh : k.hot = false) (ht : tgNs t tg = some own) (htg : itTg it tg = true)
    (hown : ∀ q ∈ own, k.N[q.2]? = some q.1 ∧ isLoc (sc.names.lookup q.1) = true) (ihit : SndI F C Φ X W it y) (hc : (c = .no ∧ ifs = []) ∨ ∃ cc x, c = .some cc ∧ ifs = [x] ∧ ∀ s H Ca cl fp, SndT F C Φ (X.blk s H sc (compEnvC sc cl Ca X.env) fp) (fun _ _ _ _ => False) cc x)
    (ihel : ∀ s H Ca cl fp, SndE F C Φ (X.blk s H sc (compEnvC sc cl Ca X.env) fp) (fun _ _ _ _ => False) el e) :
    ∀ (st : S) (g : G) (H : Hp) (σ : L2.St) (env : DE) (Q : VK), SR F st g H → ER F g H env σ → Post F (Rep F) g H Q (WE W σ) (evE C Φ (.compI el t it c) env st) → ∃ wi, PI X tg y wi ∧ tLc wi (blkG X sc tg) (blkTs X sc ifs) (blkT X sc e) (own.map (·.2)) σ H Q := by
  intro st g H σ env Q sr er h
  simp only [evE] at h
  refine ihit tg st g H σ env _ htg sr er (Post.bind h fun xs s1 g1 H1 J _ sr1 x1 wk hp => ?_)
  intro Dd hD
  obtain ⟨Gd, Y, P, walk, sp, p1, pG, yl⟩ := wk
  generalize hf : (fun d s => match bindT t d env with
    | some env' => (evC C Φ c env' s).bind fun k s2 => if k = true then (evE C Φ el env' s2).bind fun y s3 => R.ok (some y) s3 else .ok none s2
    | none => .bad) = f at hp
  cases hcm : compO f xs s1 with
  | bad => rw [hcm] at hp; exact hp.elim
  | exc ex s2 =>
    exfalso
    have never : ∀ (xs : List D) (s : S) (ex : XD) (s' : S), compO f xs s ≠ .exc ex s' := by
      intro xs
      induction xs with
      | nil => intro s ex s' h; cases h
      | cons a r ihx =>
        intro s ex s' h
        simp only [compO] at h
        split at h
        · split at h <;> cases h
        · split at h <;> cases h
        · cases h
    exact never _ _ _ _ hcm
  | ok ds s2 =>
    rw [hcm] at hp
    simp only [R.bind_ok] at hp
    have hz : ds.length ≤ sizeLine := by
      by_cases hz : ds.length ≤ sizeLine
      · exact hz
      · rw [if_neg hz] at hp; exact hp.elim
    rw [if_pos hz] at hp
    refine lc_it walk (fun j H' => ∃ g' st' acc vs', SR F st' g' H' ∧ Ext g1 H1 g' H' ∧ P g' H' ∧ H' Dd = some (.lst vs') ∧ Reps F g' H' acc vs' ∧ g'.M Dd ∧ (∀ i, g'.mu i ≠ some Dd) ∧ ∃ rest, compO f (xs.drop j) st' = .ok rest s2 ∧ acc ++ rest = ds) ?_ ?_ ?_ ?_
    · exact ⟨g1.own Dd, s1, [], [], sr1.own hD, ext_own sr1 hD, sp _ _ _ _ ((ext_own sr1 hD).wk sr1.live) p1, upd_same, .nil, .inl rfl, (show ∀ i, g1.mu i ≠ some Dd from mu_of_none sr1 hD), ds, hcm, rfl⟩
    · rintro j H' _ ⟨g', _, _, _, _, _, p', _⟩
      exact pG g' H' p'
    · rintro j x H' H2 hj ⟨g', st', acc, vs', sr', x', p', hD', ra, hm, hmu, rest, hr, hd⟩ y
      obtain ⟨sr2, x2, dj, hdj, rj⟩ := yl j st' g' H' x H2 hj p' sr' y
      have hD2 := x2.keep Dd _ hD' hmu
      have p2 := sp _ _ _ _ (x2.wk sr'.live) p'
      have ra2 := ra.mono sr'.live x2
      have x12 := x'.trans x2
      have er2 := er.mono sr.live (x1.trans x12)
      clear y
      have hdrop : xs.drop j = dj :: xs.drop (j + 1) := by
        obtain ⟨hl, e1⟩ := List.getElem?_eq_some_iff.mp hdj
        rw [← e1]
        exact List.drop_eq_getElem_cons hl
      rw [hdrop] at hr
      simp only [compO] at hr
      cases hb : bindT t dj env with
      | none => rw [← hf] at hr; simp only [hb] at hr; cases hr
      | some env' =>
        have hfd : f dj st' = (evC C Φ c env' st').bind fun k s2 => if k = true then (evE C Φ el env' s2).bind fun y s3 => R.ok (some y) s3 else .ok none s2 := by rw [← hf]; simp only [hb]
        rw [hfd] at hr
        intro s0 H0 Ca cl fp
        have cb := cg_blk cg hh (s := s0) (H := H0) (sc := sc) (Ca := Ca) (cl := cl) (fp := fp)
        obtain ⟨es, ws, he', rw_, hle, hgo⟩ := tgt_blk cb (cb.calm rfl) ht (fun q hq => ⟨by rw [cb.N]; exact (hown q hq).1, cb.loc q.1 (hown q hq).2⟩) hb rj
        refine hgo _ _ ⟨wipe_sets, ?_⟩
        have hlw : (own.map (·.2)).length = ws.length := by rw [List.length_map, hle, rw_.length]
        rw [sets_wipe hlw]
        have er3 : ER F g' H2 env' (setsV (own.map (·.2)) ws σ) := by rw [he']; exact er_sets er2 rw_
        -- the element, from a state behind the test
        have elem : ∀ (s3 : S) (g3 : G) (H3 : Hp) (rest' : List D), SR F s3 g3 H3 → Ext g' H2 g3 H3 → (∀ yd s4, evE C Φ el env' s3 = .ok yd s4 → ∃ tl, compO f (xs.drop (j + 1)) s4 = .ok tl s2 ∧ rest = yd :: tl) → (∃ yd s4, evE C Φ el env' s3 = .ok yd s4) →
            blkT X sc e (setsV (own.map (·.2)) ws σ) H3 fun yv H4 => ∃ acc, H4 Dd = some (.lst acc) ∧ acc.length < sizeLine ∧ ∃ g' st' acc_1 vs', SR F st' g' (upd H4 Dd (.lst (acc ++ [yv]))) ∧ Ext g1 H1 g' (upd H4 Dd (.lst (acc ++ [yv]))) ∧ P g' (upd H4 Dd (.lst (acc ++ [yv]))) ∧ upd H4 Dd (.lst (acc ++ [yv])) Dd = some (.lst vs') ∧ Reps F g' (upd H4 Dd (.lst (acc ++ [yv]))) acc_1 vs' ∧ g'.M Dd ∧ (∀ i, g'.mu i ≠ some Dd) ∧ ∃ rest, compO f (xs.drop (j + 1)) st' = .ok rest s2 ∧ acc_1 ++ rest = ds := by
          intro s3 g3 H3 rest' sr3 x3 hk ⟨yd, s4, hy⟩ s0 H0 Ca cl fp
          refine ihel s0 H0 Ca cl fp s3 g3 H3 _ env' _ sr3 (er3.mono sr2.live x3) ?_
          rw [hy]
          intro g4 H4 v4 sr4 x4 r4
          obtain ⟨tl, ht1, ht2⟩ := hk yd s4 hy
          have hD3 := x3.keep Dd _ hD2 hmu
          have hm3 := x3.gh Dd hm
          have hmu3 : ∀ i, g3.mu i ≠ some Dd := fun i e => by
            rcases x3.nw i Dd e with q | q
            · exact hmu i q
            · rw [hD2] at q; cases q
          have hD4 := x4.keep Dd _ hD3 hmu3
          have hm4 := x4.gh Dd hm3
          have hmu4 : ∀ i, g4.mu i ≠ some Dd := fun i e => by
            rcases x4.nw i Dd e with q | q
            · exact hmu3 i q
            · rw [hD3] at q; cases q
          refine ⟨vs', hD4, ?_, g4, s4, acc ++ [yd], vs' ++ [v4], sr4.wr hm4 hmu4, ((x12.trans x3).trans x4).wr hD, sp _ _ _ _ (wk_wr hm4) (sp _ _ _ _ (x4.wk sr3.live) (sp _ _ _ _ (x3.wk sr2.live) p2)), upd_same, ?_, hm4, hmu4, tl, ht1, by rw [List.append_assoc, ← hd, ht2]; rfl⟩
          · rw [← ra.length]
            rw [← hd, ht2] at hz
            simp at hz
            omega
          · exact (((ra2.mono sr2.live x3).mono sr3.live x4).wk (wk_wr hm4)).append (.cons (r4.wk (wk_wr hm4)) .nil)
        rcases hc with ⟨rfl, rfl⟩ | ⟨cc, xc, rfl, rfl, ihc⟩
        · unfold blkTs tYes
          dsimp only
          rw [if_pos rfl]
          simp only [evC, R.bind_ok, if_true] at hr
          cases hy : evE C Φ el env' st' with
          | bad => rw [hy] at hr; cases hr
          | exc ex s => rw [hy] at hr; cases hr
          | ok yd s4 =>
            rw [hy] at hr
            simp only [R.bind_ok] at hr
            refine elem st' g' H2 [] sr2 Ext.refl (fun yd' s4' hy' => ?_) ⟨yd, s4, hy⟩
            rw [hy] at hy'
            cases hy'
            split at hr
            · cases hr
              exact ⟨_, by assumption, rfl⟩
            · cases hr
        · intro s0 H0 Ca cl fp
          simp only [evC] at hr
          refine ihc s0 H0 Ca cl fp st' g' H2 _ env' _ sr2 er3 ?_
          cases hk : evT C Φ cc env' st' with
          | bad => rw [hk] at hr; cases hr
          | exc ex s => rw [hk] at hr; cases hr
          | ok kb s3 =>
            rw [hk] at hr
            simp only [R.bind_ok] at hr
            intro g3 H3 b3 sr3 x3 eb
            subst eb
            cases kb with
            | true =>
              rw [if_pos rfl]
              simp only [if_true] at hr
              cases hy : evE C Φ el env' s3 with
              | bad => rw [hy] at hr; cases hr
              | exc ex s => rw [hy] at hr; cases hr
              | ok yd s4 =>
                rw [hy] at hr
                simp only [R.bind_ok] at hr
                refine elem s3 g3 H3 [] sr3 x3 (fun yd' s4' hy' => ?_) ⟨yd, s4, hy⟩
                rw [hy] at hy'
                cases hy'
                split at hr
                · cases hr
                  exact ⟨_, by assumption, rfl⟩
                · cases hr
            | false =>
              rw [if_neg (by decide)]
              simp only [Bool.false_eq_true, if_false] at hr
              split at hr
              · rename_i ds' s5 hq
                cases hr
                have hmu3 : ∀ i, g3.mu i ≠ some Dd := fun i e => by
                  rcases x3.nw i Dd e with q | q
                  · exact hmu i q
                  · rw [hD2] at q; cases q
                exact ⟨g3, s3, acc, vs', sr3, x12.trans x3, sp _ _ _ _ (x3.wk sr2.live) p2, x3.keep Dd _ hD2 hmu, ra2.mono sr2.live x3, x3.gh Dd hm, hmu3, _, hq, hd⟩
              · cases hr
    · rintro H' ⟨g', st', acc, vs', sr', x', p', hD', ra, hm, hmu, rest, hr, hd⟩
      rw [List.drop_length] at hr
      cases hr
      rw [List.append_nil] at hd
      subst hd
      exact hp (g'.free Dd) H' (.ref Dd) (sr'.free hmu) (x'.free (sr1.notM hD)) (.lst ⟨hD', fun z => z.2 rfl⟩ (ra.wk wk_free))
end
end PV

set_option Elab.async false
set_option linter.all false
set_option maxRecDepth 100000
set_option maxHeartbeats 2000000
namespace PV
open PySem PySem.Spec PyProof.Rows L2
section
variable {F : Fx} {C : Cn} {Φ : Fe} {lv : Nat}
theorem fold_ok {y : Expr} {env : PySem.Env} (h : (match y with | .Set .. => false | _ => true) = true) : ∀ v, foldedSetIterable y env v = pure v := by
  intro v
  cases y <;> first | rfl | cases h
theorem plain_ok {y : Expr} (h : (match y with | .Slice .. => false | _ => true) = true) : PlainIx y := by
  intro o i
  cases y <;> first | rfl | cases h
theorem mark_ok {y : Expr} {op : CmpOp} (h : (match y with | .Set .. => false | _ => true) = true) : behindInMarks op y = false := by
  cases y <;> first | rfl | cases h
theorem last_ok {y z : Expr} {op op' : CmpOp} (h : (match z with | .Set .. => false | _ => true) = true) : lastMarks [op, op'] [y, z] = false := by
  cases z <;> first | rfl | cases h
theorem true_ok {x : Expr} {env : PySem.Env} (h : (match x with | .BoolOp .. => false | .UnaryOp .. => false | .IfExp .. => false | .Compare .. => false | _ => true) = true) :
    ∀ whole, isTrue x env whole = (do let v ← whole; standAt x.pos; holding [v] (truthy v)) := by
  intro wh
  cases x <;> first | rfl | cases h
theorem cmp_true {F : Fx} {X : Cx} {Q : Bool → Hp → Prop} {H : Hp} {b : Bool} (q : Q b H) : ∃ k, (V.bl b) = .bl k ∧ Q k H := ⟨b, rfl, q⟩
theorem post_rep {g : G} {H : Hp} {Q : VK} {E : XK} {r : R D} (h : Post F (RepB F) g H Q E r) : Post F (Rep F) g H Q E r := by
  cases r with
  | ok d s => exact fun g' H' v sr ex rv => h g' H' v sr ex (.rep rv)
  | exc x s => exact h
  | bad => exact h
abbrev SndB (F : Fx) (C : Cn) (Φ : Fe) (X : Cx) (W : WX) (a : E) (ex : Expr) : Prop :=
  ∀ (st : S) (g : G) (H : Hp) (σ : L2.St) (env : DE) (Q : VK), SR F st g H → ER F g H env σ → Post F (RepB F) g H Q (WE W σ) (bor a env st (evE C Φ a env st)) → wpE X ex σ H Q
theorem snd_b {X : Cx} {W : WX} {k : Ck} {a : E} {ex : Expr} (cg : CG F C Φ lv X W k) (ok : okE k a ex = true) (ih : SndE F C Φ X W a ex) : SndB F C Φ X W a ex := by
  intro st g H σ env Q sr er h
  cases a
  case own i =>
    cases ex <;> first | cases ok | skip
    rename_i x pos
    simp only [okE] at ok
    obtain ⟨h1, h2, h3, h4⟩ := ck_vis cg ok
    unfold bor at h
    dsimp only at h
    split at h
    · rename_i xs hd
      obtain ⟨a, vs, hv, ha, r, m, n⟩ := er.own i xs hd
      exact wp_e (pe_var h1 h2 h3 h4) ⟨_, hv, h g H _ sr Ext.refl (.brw ha r n)⟩
    · exact h.elim
  all_goals exact ih st g H σ env Q sr er (post_rep h)
theorem pj_wp {X : Cx} : ∀ xs : List Expr, PJ X xs (xs.map (wpE X))
  | [] => .nil
  | x :: xs => .cons pe_wp (pj_wp xs)
theorem okI_fold {k : Ck} {it : I} {y : Expr} {env : PySem.Env} (h : okI k it y = true) : ∀ v, foldedSetIterable y env v = pure v := by
  intro v
  cases it with
  | seq a =>
    simp only [okI, Bool.and_eq_true] at h
    cases y <;> first | rfl | cases h.2
  | rng n => cases y <;> first | rfl | cases h
  | rng2 a b => cases y <;> first | rfl | cases h
  | enum a => cases y <;> first | rfl | cases h
  | zip a b => cases y <;> first | rfl | cases h
theorem bools_ok {F : Fx} {g : G} {H : Hp} : ∀ {xs : List D} {vs : List V} {bs : List Bool}, Reps F g H xs vs → boolsD xs = some bs → vs = bs.map V.bl
  | [], _, _, .nil, h => by cases h; rfl
  | d :: ds, _, _, .cons r t, h => by
    unfold boolsD at h
    split at h
    · rename_i e; cases e
    · rename_i b r' e
      cases e
      cases r
      cases e2 : boolsD ds with
      | none => rw [e2] at h; cases h
      | some zs =>
        rw [e2] at h
        cases h
        rw [bools_ok t e2, List.map_cons]
    · cases h
theorem own_ok {k : Ck} {sc : Scope} {own : List (Str × Nat)} (h : (own.all fun q => decide (k.N[q.2]? = some q.1) && isLoc (sc.names.lookup q.1)) = true) : ∀ q ∈ own, k.N[q.2]? = some q.1 ∧ isLoc (sc.names.lookup q.1) = true := fun q hq => by
  have := List.all_eq_true.mp h q hq
  simpa only [Bool.and_eq_true, decide_eq_true_eq] using this
theorem blk_pts {X : Cx} {sc : Scope} {ifs : List Expr} (h : ifs.length ≤ 1) (s : Shared) (H : Hp) (Ca : Addr) (cl : List (Str × Addr)) (fp : List Addr) : PTs (X.blk s H sc (compEnvC sc cl Ca X.env) fp) ifs (blkTs X sc ifs) := by
  match ifs, h with
  | [], _ => exact pts_nil
  | [x], _ => exact pts_one ⟨fun pins s1 σ1 H1 Q I q => q s H Ca cl fp pins s1 I⟩
  | _ :: _ :: _, h => simp at h
mutual
theorem sE : ∀ (e : E) (ex : Expr) (X : Cx) (W : WX) (k : Ck), CG F C Φ lv X W k → okE k e ex = true → SndE F C Φ X W e ex
  | .var i, ex, X, W, k, cg, ok => by
    cases ex <;> first | cases ok | skip
    rename_i x pos
    simp only [okE] at ok
    obtain ⟨h1, h2, h3, h4⟩ := ck_vis cg ok
    intro st g H σ env Q sr er h
    simp only [evE] at h
    split at h
    · rename_i d hd
      obtain ⟨v, hv, rv⟩ := er.val i d hd
      exact wp_e (pe_var h1 h2 h3 h4) ⟨v, hv, h g H v sr Ext.refl rv⟩
    · exact h.elim
  | .int i, ex, X, W, k, cg, ok => by
    cases ex <;> first | cases ok | skip
    rename_i c j pos
    cases c <;> first | cases ok | skip
    simp only [okE, decide_eq_true_eq] at ok
    subst ok
    intro st g H σ env Q sr er h
    exact wp_e pe_int (h g H _ sr Ext.refl (.int _))
  | .str s, ex, X, W, k, cg, ok => by
    cases ex <;> first | cases ok | skip
    rename_i c j pos
    cases c <;> first | cases ok | skip
    simp only [okE, decide_eq_true_eq] at ok
    subst ok
    intro st g H σ env Q sr er h
    exact wp_e pe_str (h g H _ sr Ext.refl (.str _))
  | .bl b, ex, X, W, k, cg, ok => by
    cases ex <;> first | cases ok | skip
    rename_i c j pos
    cases c <;> first | cases ok | skip
    have e := eq_of_beq (show (b == _) = true from ok)
    subst e
    intro st g H σ env Q sr er h
    exact wp_e pe_bl (h g H _ sr Ext.refl (.bl _))
  | .non, ex, X, W, k, cg, ok => by
    cases ex <;> first | cases ok | skip
    rename_i c j pos
    cases c <;> first | cases ok | skip
    intro st g H σ env Q sr er h
    exact wp_e pe_non (h g H _ sr Ext.refl .non)
  | .glob s, ex, X, W, k, cg, ok => by
    cases ex <;> first | cases ok | skip
    rename_i x pos
    simp only [okE, Bool.and_eq_true, decide_eq_true_eq] at ok
    obtain ⟨rfl, ok⟩ := ok
    obtain ⟨g1, g2, g3⟩ := ck_gl cg ok
    intro st g H σ env Q sr er h
    obtain ⟨z, hz, q⟩ := post_ofO h
    obtain ⟨u, v, hm, ru, rz⟩ := cg.con s z hz
    exact wp_e (pe_glob g1 hm ru g2) (q.same sr (rz g H))
  | .tup es, ex, X, W, k, cg, ok => by
    cases ex <;> first | cases ok | skip
    rename_i xs j pos
    have ih := sEs es xs X W k cg ok
    intro st g H σ env Q sr er h
    refine wp_e (pe_tup pa_wp) (ih st g H σ env _ sr er (Post.bind h fun ds s1 g1 H1 vs _ sr1 x1 r1 h1 => ?_))
    split at h1
    · rename_i hz
      exact ⟨by rw [← r1.length]; exact hz, fun p hp => Go.tup h1 sr1 r1 hp⟩
    · exact h1.elim
  | .lst es, ex, X, W, k, cg, ok => by
    cases ex <;> first | cases ok | skip
    rename_i xs pos
    have ih := sEs es xs X W k cg ok
    intro st g H σ env Q sr er h
    refine wp_e (pe_lst pa_wp) (ih st g H σ env _ sr er (Post.bind h fun ds s1 g1 H1 vs _ sr1 x1 r1 h1 => ?_))
    split at h1
    · rename_i hz
      exact ⟨by rw [← r1.length]; exact hz, fun p hp => Go.lst h1 sr1 r1 hp⟩
    · exact h1.elim
  | .lstM es, ex, X, W, k, cg, ok => by
    cases ex <;> first | cases ok | skip
    rename_i xs pos
    have ih := sEs es xs X W k cg ok
    intro st g H σ env Q sr er h
    refine wp_e (pe_lst pa_wp) (ih st g H σ env _ sr er (Post.bind h fun ds s1 g1 H1 vs _ sr1 x1 r1 h1 => ?_))
    split at h1
    · rename_i hz
      refine ⟨by rw [← r1.length]; exact hz, fun p hp => ?_⟩
      exact h1 _ _ _ (sr1.put hp ⟨vs, upd_same, r1.mono sr1.live (ext_put sr1 hp)⟩) (ext_put sr1 hp) (.obj (if_pos rfl))
    · exact h1.elim
  | .dic0, ex, X, W, k, cg, ok => by
    cases ex <;> first | cases ok | skip
    rename_i ks vs pos
    cases ks <;> first | cases ok | skip
    cases vs <;> first | cases ok | skip
    intro st g H σ env Q sr er h
    refine wp_e pe_dnewK fun p hp => ?_
    exact h g _ _ (sr.new hp) (ext_new hp) (.dic upd_same (sr.notM hp) .nil)
  | .bin op a b, ex, X, W, k, cg, ok => by
    cases ex <;> first | cases ok | skip
    rename_i x o y pos
    simp only [okE, Bool.and_eq_true] at ok
    obtain ⟨⟨o1, o2⟩, o3⟩ := ok
    have e := opB_ok o1
    subst e
    have iha := snd_b cg o2 (sE a x X W k cg o2)
    have ihb := snd_b cg o3 (sE b y X W k cg o3)
    intro st g H σ env Q sr er h
    refine wp_e (pe_op op_bin pe_wp pe_wp) (iha st g H σ env _ sr er (Post.bind h fun d1 s1 g1 H1 v1 _ sr1 x1 r1 h1 => ihb s1 g1 H1 σ env _ sr1 (er.mono sr.live x1) (Post.bind h1 fun d2 s2 g2 H2 v2 _ sr2 x2 r2 h2 => ?_)))
    obtain ⟨z, hz, q⟩ := post_ofO h2
    exact bin_ok cg.K hz sr2 ((r1.mono sr1.live x2).res sr2) (r2.res sr2) q
  | .neg a, ex, X, W, k, cg, ok => by
    cases ex <;> first | cases ok | skip
    rename_i o x pos
    cases o <;> first | cases ok | skip
    have iha := sE a x X W k cg ok
    intro st g H σ env Q sr er h
    refine wp_e (pe_un un_neg pe_wp) (iha st g H σ env _ sr er (Post.bind h fun d1 s1 g1 H1 v1 _ sr1 x1 r1 h1 => ?_))
    split at h1
    · cases r1
      exact ⟨_, rfl, h1 g1 H1 _ sr1 Ext.refl (.int _)⟩
    · exact h1.elim
  | .not a, ex, X, W, k, cg, ok => by
    cases ex <;> first | cases ok | skip
    rename_i o x pos
    cases o <;> first | cases ok | skip
    have iha := sE a x X W k cg ok
    intro st g H σ env Q sr er h
    refine wp_e (pe_not pe_wp) (iha st g H σ env _ sr er (Post.bind h fun d1 s1 g1 H1 v1 _ sr1 x1 r1 h1 => ?_))
    split at h1
    · cases r1
      exact ⟨_, rfl, h1 g1 H1 _ sr1 Ext.refl (.bl _)⟩
    · exact h1.elim
  | .and a b, ex, X, W, k, cg, ok => by
    cases ex <;> first | cases ok | skip
    rename_i o vals pos
    cases o <;> first | cases ok | skip
    match vals, ok with
    | x :: y :: r, ok =>
      simp only [okE, Bool.and_eq_true] at ok
      obtain ⟨o1, o2⟩ := ok
      have iha := sE a x X W k cg o1
      have ihb : SndE F C Φ X W b (.BoolOp .And (y :: r) pos) := by
        cases r with
        | nil =>
          have ih := sE b y X W k cg o2
          exact fun st g H σ env Q sr er h => wp_e (pe_one pe_wp) (ih st g H σ env Q sr er h)
        | cons z r => exact sE b _ X W k cg o2
      intro st g H σ env Q sr er h
      refine wp_e (pe_and pe_wp pe_wp) (iha st g H σ env _ sr er (Post.bind h fun d1 s1 g1 H1 v1 _ sr1 x1 r1 h1 => ?_))
      split at h1
      · cases r1
        exact ⟨_, rfl, iteT (ihb s1 g1 H1 σ env _ sr1 (er.mono sr.live x1) h1)⟩
      · cases r1
        exact ⟨_, rfl, iteF (h1 g1 H1 _ sr1 Ext.refl (.bl _))⟩
      · exact h1.elim
    | [], ok => cases ok
    | [_], ok => cases ok
  | .or a b, ex, X, W, k, cg, ok => by
    cases ex <;> first | cases ok | skip
    rename_i o vals pos
    cases o <;> first | cases ok | skip
    match vals, ok with
    | x :: y :: r, ok =>
      simp only [okE, Bool.and_eq_true] at ok
      obtain ⟨o1, o2⟩ := ok
      have iha := sE a x X W k cg o1
      have ihb : SndE F C Φ X W b (.BoolOp .Or (y :: r) pos) := by
        cases r with
        | nil =>
          have ih := sE b y X W k cg o2
          exact fun st g H σ env Q sr er h => wp_e (pe_one pe_wp) (ih st g H σ env Q sr er h)
        | cons z r => exact sE b _ X W k cg o2
      intro st g H σ env Q sr er h
      refine wp_e (pe_or pe_wp pe_wp) (iha st g H σ env _ sr er (Post.bind h fun d1 s1 g1 H1 v1 _ sr1 x1 r1 h1 => ?_))
      split at h1
      · cases r1
        exact ⟨_, rfl, iteF (ihb s1 g1 H1 σ env _ sr1 (er.mono sr.live x1) h1)⟩
      · cases r1
        exact ⟨_, rfl, iteT (h1 g1 H1 _ sr1 Ext.refl (.bl _))⟩
      · exact h1.elim
    | [], ok => cases ok
    | [_], ok => cases ok
  | .cmp op a b, ex, X, W, k, cg, ok => by
    cases ex <;> first | cases ok | skip
    rename_i x ops cs pos
    match ops, cs, ok with
    | [o], [y], ok =>
      simp only [okE, Bool.and_eq_true] at ok
      obtain ⟨⟨⟨o1, o2⟩, o3⟩, o4⟩ := ok
      have e := coB_ok o1
      subst e
      have iha := snd_b cg o2 (sE a x X W k cg o2)
      have ihb := snd_b cg o3 (sE b y X W k cg o3)
      intro st g H σ env Q sr er h
      refine wp_e (pe_cmpR op_cmp pe_wp pe_wp (mark_ok o4)) (iha st g H σ env _ sr er (Post.bind h fun d1 s1 g1 H1 v1 _ sr1 x1 r1 h1 => ihb s1 g1 H1 σ env _ sr1 (er.mono sr.live x1) (Post.bind h1 fun d2 s2 g2 H2 v2 _ sr2 x2 r2 h2 => ?_)))
      obtain ⟨z, hz, q⟩ := post_ofB h2
      exact cmp_ok cg.K cg.wv (by have := cg.un; omega) hz sr2 ((r1.mono sr1.live x2).res sr2) (r2.res sr2) (q.same sr2 (.bl _))
  | .chain op op' a b c, ex, X, W, k, cg, ok => by
    cases ex <;> first | cases ok | skip
    rename_i x ops cs pos
    match ops, cs, ok with
    | [o, o'], [y, z], ok =>
      simp only [okE, Bool.and_eq_true] at ok
      obtain ⟨⟨⟨⟨⟨o1, o2⟩, o3⟩, o4⟩, o5⟩, o6⟩ := ok
      have e := coB_ok o1
      subst e
      have e := coB_ok o2
      subst e
      have iha := sE a x X W k cg o3
      have ihb := sE b y X W k cg o4
      have ihc := sE c z X W k cg o5
      intro st g H σ env Q sr er h
      refine wp_e (pe_chain op_cmp op_cmp pe_wp pe_wp pe_wp (last_ok o6)) (iha st g H σ env _ sr er (Post.bind h fun d1 s1 g1 H1 v1 _ sr1 x1 r1 h1 => ihb s1 g1 H1 σ env _ sr1 (er.mono sr.live x1) (Post.bind h1 fun d2 s2 g2 H2 v2 _ sr2 x2 r2 h2 => ?_)))
      split at h2
      · rename_i hz
        refine cmp_ok cg.K cg.wv (by have := cg.un; omega) hz sr2 (.rep (r1.mono sr1.live x2)) (.rep r2) ⟨true, rfl, iteT (ihc s2 g2 H2 σ env _ sr2 (er.mono sr.live (x1.trans x2)) (Post.bind h2 fun d3 s3 g3 H3 v3 _ sr3 x3 r3 h3 => ?_))⟩
        obtain ⟨z, hz, q⟩ := post_ofB h3
        exact cmp_ok cg.K cg.wv (by have := cg.un; omega) hz sr3 (.rep (r2.mono sr2.live x3)) (.rep r3) (q.same sr3 (.bl _))
      · rename_i hz
        exact cmp_ok cg.K cg.wv (by have := cg.un; omega) hz sr2 (.rep (r1.mono sr1.live x2)) (.rep r2) ⟨false, rfl, iteF (h2 g2 H2 _ sr2 Ext.refl (.bl _))⟩
      · exact h2.elim
  | .isN a, ex, X, W, k, cg, ok => by
    cases ex <;> first | cases ok | skip
    rename_i x ops cs pos
    match ops, cs, ok with
    | [.Is], [.Constant .none j p], ok =>
      have iha := sE a x X W k cg ok
      intro st g H σ env Q sr er h
      refine wp_e (pe_cmp (pc_isN pe_wp) rfl) (iha st g H σ env _ sr er (Post.bind h fun d1 s1 g1 H1 v1 _ sr1 x1 r1 h1 => ?_))
      cases r1 <;> exact h1 g1 H1 _ sr1 Ext.refl (.bl _)
  | .notN a, ex, X, W, k, cg, ok => by
    cases ex <;> first | cases ok | skip
    rename_i x ops cs pos
    match ops, cs, ok with
    | [.IsNot], [.Constant .none j p], ok =>
      have iha := sE a x X W k cg ok
      intro st g H σ env Q sr er h
      refine wp_e (pe_cmp (pc_notN pe_wp) rfl) (iha st g H σ env _ sr er (Post.bind h fun d1 s1 g1 H1 v1 _ sr1 x1 r1 h1 => ?_))
      cases r1 <;> exact h1 g1 H1 _ sr1 Ext.refl (.bl _)
  | .ifx c a b, ex, X, W, k, cg, ok => by
    cases ex <;> first | cases ok | skip
    rename_i t x y pos
    simp only [okE, Bool.and_eq_true] at ok
    obtain ⟨⟨o1, o2⟩, o3⟩ := ok
    have iht := sT c t X W k cg o1
    have iha := sE a x X W k cg o2
    have ihb := sE b y X W k cg o3
    intro st g H σ env Q sr er h
    refine wp_e (pe_ifExp pt_wp pe_wp pe_wp) (iht st g H σ env _ sr er (Post.bind h fun d1 s1 g1 H1 v1 _ sr1 x1 r1 h1 => ?_))
    subst r1
    cases d1 with
    | true => exact iteT (iha s1 g1 H1 σ env _ sr1 (er.mono sr.live x1) (by simpa using h1))
    | false => exact iteF (ihb s1 g1 H1 σ env _ sr1 (er.mono sr.live x1) (by simpa using h1))
  | .sub a b, ex, X, W, k, cg, ok => by
    cases ex <;> first | cases ok | skip
    rename_i x y pos
    simp only [okE, Bool.and_eq_true] at ok
    obtain ⟨⟨o2, o3⟩, o4⟩ := ok
    have iha := snd_b cg o2 (sE a x X W k cg o2)
    have ihb := sE b y X W k cg o3
    intro st g H σ env Q sr er h
    refine wp_e (pe_ix ix_sub pe_wp pe_wp (plain_ok o4)) (iha st g H σ env _ sr er (Post.bind h fun d1 s1 g1 H1 v1 _ sr1 x1 r1 h1 => ihb s1 g1 H1 σ env _ sr1 (er.mono sr.live x1) (Post.bind h1 fun d2 s2 g2 H2 v2 _ sr2 x2 r2 h2 => ?_)))
    obtain ⟨z, hz, q⟩ := post_ofO h2
    exact sub_ok cg.K cg.wv hz sr2 (r1.mono sr1.live x2).now (.rep r2) q
  | .slice a lo hi, ex, X, W, k, cg, ok => by
    cases ex <;> first | cases ok | skip
    rename_i x y pos
    cases y <;> first | cases ok | skip
    rename_i l h' s' p'
    cases s' <;> first | cases ok | skip
    simp only [okE, Bool.and_eq_true] at ok
    obtain ⟨⟨o1, o2⟩, o3⟩ := ok
    have iha := snd_b cg o1 (sE a x X W k cg o1)
    have ihl := sO lo l X W k cg o2
    have ihh := sO hi h' X W k cg o3
    intro st g H σ env Q sr er h
    refine wp_e (pe_slice sl_sli pe_wp po_wp po_wp) (iha st g H σ env _ sr er (Post.bind h fun d1 s1 g1 H1 v1 _ sr1 x1 r1 h1 => ihl s1 g1 H1 σ env _ sr1 (er.mono sr.live x1) (Post.bind h1 fun d2 s2 g2 H2 v2 _ sr2 x2 r2 h2 =>
      ihh s2 g2 H2 σ env _ sr2 (er.mono sr.live (x1.trans x2)) (Post.bind h2 fun d3 s3 g3 H3 v3 _ sr3 x3 r3 h3 => ?_))))
    subst r2 r3
    obtain ⟨z, hz, q⟩ := post_ofO h3
    exact sli_ok cg.K hz sr3 (r1.mono sr1.live (x2.trans x3)).now q
  | .call f es, ex, X, W, k, cg, ok => by
    cases ex <;> first | cases ok | skip
    rename_i fn xs kws pos
    cases fn <;> first | cases ok | skip
    cases kws <;> first | cases ok | skip
    simp only [okE, Bool.and_eq_true, decide_eq_true_eq, Bool.not_eq_true'] at ok
    obtain ⟨⟨⟨⟨o1, o2⟩, o3⟩, o4⟩, o5⟩ := ok
    exact call_sound cg o1 o2 o3 o4 o5 (sEs es xs X W k cg o5)
  | .bi b a, ex, X, W, k, cg, ok => by
    cases ex <;> first | cases ok | skip
    rename_i fn xs kws pos
    cases fn <;> first | cases ok | skip
    match xs, kws, ok with
    | [y], [], ok =>
      simp only [okE, Bool.and_eq_true, decide_eq_true_eq] at ok
      obtain ⟨⟨⟨o1, o2⟩, o3⟩, o4⟩ := ok
      subst o1
      obtain ⟨g1, g2, g3⟩ := ck_gl cg o2
      have iha := snd_b cg o3 (sE a y X W k cg o3)
      intro st g H σ env Q sr er h
      refine wp_e (biV_call call_cl g1 (cg.bf _ mem_b) (boot_bi b) (pa_cons pe_wp pa_nil (star_of o4)) g3 g2 (star_of o4)) (iha st g H σ env _ sr er (Post.bind h fun d1 s1 g1 H1 v1 _ sr1 x1 r1 h1 => ?_))
      obtain ⟨z, hz, q⟩ := post_ofO h1
      exact bi_ok cg.K cg.gd cg.un hz sr1 r1.now q
  | .isi a t, ex, X, W, k, cg, ok => by
    cases ex <;> first | cases ok | skip
    rename_i fn xs kws pos
    cases fn <;> first | cases ok | skip
    match xs, kws, ok with
    | [y, .Name z pz], [], ok =>
      simp only [okE, Bool.and_eq_true, decide_eq_true_eq] at ok
      obtain ⟨⟨⟨⟨⟨⟨o1, o2⟩, o3⟩, o4⟩, o5⟩, o6⟩, o7⟩ := ok
      subst o1
      obtain ⟨g1, g2, g3⟩ := ck_gl cg o2
      obtain ⟨f1, f2, f3⟩ := ck_gl cg o6
      have iha := sE a y X W k cg o3
      intro st g H σ env Q sr er h
      have hz : PE X (.Name z pz) (tC (.ty (tyNm t))) := by
        subst o5
        cases t with
        | own c => cases o7
        | int => exact pe_bltn f1 (cg.bf _ (by decide)) (by decide +kernel) rfl f3 f2
        | bool => exact pe_bltn f1 (cg.bf _ (by decide)) (by decide +kernel) rfl f3 f2
        | str => exact pe_bltn f1 (cg.bf _ (by decide)) (by decide +kernel) rfl f3 f2
        | tuple => exact pe_bltn f1 (cg.bf _ (by decide)) (by decide +kernel) rfl f3 f2
        | list => exact pe_bltn f1 (cg.bf _ (by decide)) (by decide +kernel) rfl f3 f2
        | dict => exact pe_bltn f1 (cg.bf _ (by decide)) (by decide +kernel) rfl f3 f2
      refine wp_e (pe_callB (id := "isinstance") call_cl g1 (cg.bf _ (by decide)) (by decide +kernel) (pa_cons pe_wp (pa_cons hz pa_nil) (star_of o4)) g3 g2 (star_of o4) rfl) (iha st g H σ env _ sr er (Post.bind h fun d1 s1 g1 H1 v1 _ sr1 x1 r1 h1 => ?_))
      obtain ⟨b, hb, q⟩ := post_ofB h1
      exact isi_ok cg.K hb r1 (q.same sr1 (.bl _))
  | .comp el i it, ex, X, W, k, cg, ok => by
    cases ex <;> first | cases ok | skip
    rename_i e gens sc pos
    match gens, ok with
    | [⟨.Name x px, y, [], a⟩], ok =>
      simp only [okE, Bool.and_eq_true, decide_eq_true_eq, Bool.not_eq_true'] at ok
      obtain ⟨⟨⟨⟨⟨⟨⟨rfl, o1⟩, o2⟩, o3⟩, o4⟩, o5⟩, o6⟩, o7⟩ := ok
      exact comp_sound cg o1 o2 o4 o5 (fold_ok o7) (sE it y X W k cg o3) (fun s H Ca cl fp => sE el e _ _ _ (cg_blk cg o1) o6)
  | .compI el t it c, ex, X, W, k, cg, ok => by
    cases ex <;> first | cases ok | skip
    rename_i e gens sc pos
    match gens, ok with
    | [⟨tg, y, ifs, a⟩], ok =>
      simp only [okE, Bool.and_eq_true, decide_eq_true_eq, Bool.not_eq_true'] at ok
      obtain ⟨⟨⟨⟨rfl, o1⟩, o2⟩, o3⟩, o4⟩ := ok
      cases ht : tgNs t tg with
      | none => rw [ht] at o4; cases o4
      | some own =>
        rw [ht] at o4
        simp only [Bool.and_eq_true] at o4
        obtain ⟨⟨⟨p1, p2⟩, p3⟩, p4⟩ := o4
        have ihit := sI it y X W k cg o2
        have ihel := fun (s : Shared) (H : Hp) (Ca : Addr) (cl : List (Str × Addr)) (fp : List Addr) => sE el e _ _ _ (cg_blk cg o1 (s := s) (H := H) (sc := sc) (Ca := Ca) (cl := cl) (fp := fp)) p4
        have hc := sC c ifs X W k cg o1 sc p3
        intro st g H σ env Q sr er h
        obtain ⟨wi, h1, h2⟩ := compI_core cg o1 ht o3 (own_ok p2) ihit hc ihel st g H σ env Q sr er h
        exact wp_e (pe_lc (own := own) (cg.calm o1) cg.nd h1 (cg.blk sc _ p1) (fun s H Ca cl fp => ⟨fun pins s1 σ1 H1 v u Q I r q => q s H Ca cl fp pins s1 u I r⟩)
          (fun s H Ca cl fp => blk_pts (by rcases hc with ⟨_, e⟩ | ⟨_, _, _, e, _⟩ <;> simp [e]) s H Ca cl fp) (fun s H Ca cl fp => ⟨fun pins s1 σ1 H1 Q1 I q => q s H Ca cl fp pins s1 I⟩) (okI_fold o2)) h2
  | .sset a, ex, X, W, k, cg, ok => by
    cases ex <;> first | cases ok | skip
    rename_i fn xs kws pos
    cases fn <;> first | cases ok | skip
    match xs, kws, ok with
    | [.Call (.Name gn pg) [y] [] pc], [], ok =>
      simp only [okE, Bool.and_eq_true, decide_eq_true_eq, Bool.not_eq_true'] at ok
      obtain ⟨⟨⟨⟨⟨⟨o0, rfl⟩, o2⟩, rfl⟩, o4⟩, o5⟩, o6⟩ := ok
      obtain ⟨g1, g2, g3⟩ := ck_gl cg o2
      obtain ⟨f1, f2, f3⟩ := ck_gl cg o4
      have iha := snd_b cg o5 (sE a y X W k cg o5)
      intro st g H σ env Q sr er h
      refine wp_e (pe_callB (id := "sorted") call_cl g1 (cg.bf _ (by decide)) (by decide +kernel) (pa_cons (pe_callTy (T := "set") call_cl f1 (cg.bf _ (by decide)) (by decide +kernel) (pa_cons pe_wp pa_nil (star_of o6)) f3 f2 (star_of o6) rfl) pa_nil rfl) g3 g2 rfl rfl)
        (iha st g H σ env _ sr er (Post.bind h fun d1 s1 g1 H1 v1 _ sr1 x1 r1 h1 => ?_))
      split at h1
      · rename_i xs _
        obtain ⟨ad, vs, rfl, t, r⟩ := r1.now.ls
        cases e2 : strsD xs with
        | none => rw [e2] at h1; exact h1.elim
        | some zs =>
          rw [e2] at h1
          dsimp only at h1
          split at h1
          · rename_i hz
            have ev := strs_ok r e2
            subst ev
            refine rCl.of (cr_setTx (cg.calm o0)) ⟨ad, zs, rfl, .inl (.inl t), hz.1, fun b L hb hm nd hl => ?_⟩
            have hL := dset_len hm nd
            refine rCl.of (cr_sortedTx (cg.calm o0)) ⟨b, L, rfl, upd_same, by omega, fun ys p pm srt hp => ?_⟩
            have ey := sset_eq hm nd pm srt
            have sr2 : SR F s1 g1 (upd H1 b (TxSetO X.prog X.w b L)) := sr1.new hb
            have x2 : Ext g1 H1 g1 (upd H1 b (TxSetO X.prog X.w b L)) := ext_new hb
            refine h1 g1 _ _ (sr2.new hp) (x2.trans (ext_new hp)) ?_
            rw [ey]
            exact rep_lst_new sr2 hp (reps_strs _)
          · exact h1.elim
      · exact h1.elim
  | .lset a, ex, X, W, k, cg, ok => by
    cases ex <;> first | cases ok | skip
    rename_i fn xs kws pos
    cases fn <;> first | cases ok | skip
    match xs, kws, ok with
    | [.Call (.Name gn pg) [y] [] pc], [], ok =>
      simp only [okE, Bool.and_eq_true, decide_eq_true_eq, Bool.not_eq_true'] at ok
      obtain ⟨⟨⟨⟨⟨⟨o0, rfl⟩, o2⟩, rfl⟩, o4⟩, o5⟩, o6⟩ := ok
      obtain ⟨g1, g2, g3⟩ := ck_gl cg o2
      obtain ⟨f1, f2, f3⟩ := ck_gl cg o4
      have iha := snd_b cg o5 (sE a y X W k cg o5)
      intro st g H σ env Q sr er h
      refine wp_e (pe_callB (id := "len") call_cl g1 (cg.bf _ (by decide)) (by decide +kernel) (pa_cons (pe_callTy (T := "set") call_cl f1 (cg.bf _ (by decide)) (by decide +kernel) (pa_cons pe_wp pa_nil (star_of o6)) f3 f2 (star_of o6) rfl) pa_nil rfl) g3 g2 rfl rfl)
        (iha st g H σ env _ sr er (Post.bind h fun d1 s1 g1 H1 v1 _ sr1 x1 r1 h1 => ?_))
      split at h1
      · rename_i xs _
        obtain ⟨ad, vs, rfl, t, r⟩ := r1.now.ls
        cases e2 : strsD xs with
        | none => rw [e2] at h1; exact h1.elim
        | some zs =>
          rw [e2] at h1
          dsimp only at h1
          split at h1
          · rename_i hz
            have ev := strs_ok r e2
            subst ev
            refine rCl.of (cr_setTx (cg.calm o0)) ⟨ad, zs, rfl, .inl (.inl t), hz, fun b L hb hm nd hl => ?_⟩
            have hL := dset_len hm nd
            refine rCl.of cr_lenTx ⟨b, L, rfl, upd_same, by omega, ?_⟩
            rw [hL]
            exact h1 g1 _ _ (sr1.new hb) (ext_new hb) (.int _)
          · exact h1.elim
      · exact h1.elim
  | .allL a, ex, X, W, k, cg, ok => by
    cases ex <;> first | cases ok | skip
    rename_i fn xs kws pos
    cases fn <;> first | cases ok | skip
    match xs, kws, ok with
    | [y], [], ok =>
      simp only [okE, Bool.and_eq_true, decide_eq_true_eq, Bool.not_eq_true'] at ok
      obtain ⟨⟨⟨⟨o0, rfl⟩, o2⟩, o5⟩, o6⟩ := ok
      obtain ⟨g1, g2, g3⟩ := ck_gl cg o2
      have iha := snd_b cg o5 (sE a y X W k cg o5)
      intro st g H σ env Q sr er h
      refine wp_e (pe_callB (id := "all") call_cl g1 (cg.bf _ (by decide)) (by decide +kernel) (pa_cons pe_wp pa_nil (star_of o6)) g3 g2 (star_of o6) rfl)
        (iha st g H σ env _ sr er (Post.bind h fun d1 s1 g1 H1 v1 _ sr1 x1 r1 h1 => ?_))
      split at h1
      · rename_i xs _
        obtain ⟨ad, vs, rfl, t, r⟩ := r1.now.ls
        cases e2 : boolsD xs with
        | none => rw [e2] at h1; exact h1.elim
        | some bs =>
          rw [e2] at h1
          have ev := bools_ok r e2
          subst ev
          exact rCl.of (cr_all (cg.calm o0)) ⟨ad, bs, rfl, .inl (.inl t), h1 g1 H1 _ sr1 Ext.refl (.bl _)⟩
      · exact h1.elim
  | .fld a f, ex, X, W, k, cg, ok => by
    cases ex <;> first | cases ok | skip
    rename_i x n pos
    simp only [okE, Bool.and_eq_true, decide_eq_true_eq] at ok
    obtain ⟨⟨⟨o1, o2⟩, o3⟩, o4⟩ := ok
    exact fld_sound cg o1 o2 o4 (sE a x X W k cg o3)
  | .prop a f, ex, X, W, k, cg, ok => by
    cases ex <;> first | cases ok | skip
    rename_i x n pos
    simp only [okE, Bool.and_eq_true, decide_eq_true_eq, Bool.not_eq_true'] at ok
    obtain ⟨⟨⟨⟨o0, o1⟩, o2⟩, o3⟩, o4⟩ := ok
    exact prop_sound cg o0 o1 o2 o4 (sE a x X W k cg o3)
  | .mcall a m es, ex, X, W, k, cg, ok => by
    cases ex <;> first | cases ok | skip
    rename_i fn xs kws pos
    cases fn <;> first | cases ok | skip
    cases kws <;> first | cases ok | skip
    rename_i x n ap
    simp only [okE, Bool.and_eq_true, decide_eq_true_eq, Bool.not_eq_true'] at ok
    obtain ⟨⟨⟨⟨⟨⟨⟨⟨o0, o1⟩, o2⟩, o3⟩, o4⟩, o5⟩, o6⟩, o7⟩, o8⟩ := ok
    exact meth_sound cg o0 o1 o2 o3 o6 o7 o8 o5 (sE a x X W k cg o4) (sEs es xs X W k cg o5)
  | .own i, ex, X, W, k, cg, ok => by
    intro st g H σ env Q sr er h
    exact h.elim
  | .listM a, ex, X, W, k, cg, ok => by
    cases ex <;> first | cases ok | skip
    rename_i fn xs kws pos
    cases fn <;> first | cases ok | skip
    match xs, kws, ok with
    | [y], [], ok =>
      simp only [okE, Bool.and_eq_true, decide_eq_true_eq] at ok
      obtain ⟨⟨⟨o1, o2⟩, o3⟩, o4⟩ := ok
      subst o1
      obtain ⟨g1, g2, g3⟩ := ck_gl cg o2
      have iha := snd_b cg o3 (sE a y X W k cg o3)
      intro st g H σ env Q sr er h
      refine wp_e (biV_call (b := .list) call_cl g1 (cg.bf _ (mem_b (b := .list))) (boot_bi .list) (pa_cons pe_wp pa_nil (star_of o4)) g3 g2 (star_of o4)) (iha st g H σ env _ sr er (Post.bind h fun d1 s1 g1 H1 v1 _ sr1 x1 r1 h1 => ?_))
      split at h1
      · rename_i xs e1
        obtain ⟨a, vs, rfl, r, h2⟩ := items_ok cg.K e1 sr1 r1.now
        refine rCl.of call_list_of ⟨_, vs, rfl, ?_, fun p hp => ?_⟩
        · rcases h2 with h2 | h2
          · exact .inr h2.2
          · exact .inl h2.2
        · exact h1 _ _ _ (sr1.put hp ⟨vs, upd_same, r.mono sr1.live (ext_put sr1 hp)⟩) (ext_put sr1 hp) (.obj (if_pos rfl))
      · exact h1.elim
  | .fmt a, ex, X, W, k, cg, ok => by
    cases ex <;> first | cases ok | skip
    rename_i x c sp pos
    cases sp <;> first | cases ok | skip
    simp only [okE, Bool.and_eq_true, decide_eq_true_eq] at ok
    obtain ⟨rfl, o1⟩ := ok
    have iha := sE a x X W k cg o1
    intro st g H σ env Q sr er h
    refine wp_e (pe_fmt pe_wp) (iha st g H σ env _ sr er (Post.bind h fun d1 s1 g1 H1 v1 _ sr1 x1 r1 h1 => ?_))
    obtain ⟨z, hz, q⟩ := post_ofO h1
    exact fmt_ok hz sr1 r1 q
  | .fstr es, ex, X, W, k, cg, ok => by
    cases ex <;> first | cases ok | skip
    rename_i xs pos
    simp only [okE, Bool.and_eq_true, decide_eq_true_eq] at ok
    obtain ⟨o1, o2⟩ := ok
    have ih := sJ es xs X W k cg o2
    intro st g H σ env Q sr er h
    match xs, o1, ih with
    | y :: z :: r, _, ih => exact wp_e (pe_joined (pj_wp _)) (ih Str.empty st g H σ env Q sr er h)
  | .join s a, ex, X, W, k, cg, ok => by
    cases ex <;> first | cases ok | skip
    rename_i fn xs kws pos
    cases fn <;> first | cases ok | skip
    rename_i o m ap
    cases o <;> first | cases ok | skip
    rename_i c kd p
    cases c <;> first | cases ok | skip
    match xs, kws, ok with
    | [y], [], ok =>
      simp only [okE, Bool.and_eq_true, decide_eq_true_eq] at ok
      obtain ⟨⟨⟨⟨rfl, rfl⟩, o3⟩, o4⟩, o5⟩ := ok
      have iha := snd_b cg o3 (sE a y X W k cg o3)
      intro st g H σ env Q sr er h
      refine wp_e (pe_join pe_str pe_wp (star_of o4) rfl o5) ⟨⟨_, rfl⟩, iha st g H σ env _ sr er (Post.bind h fun d1 s1 g1 H1 v1 _ sr1 x1 r1 h1 => ?_)⟩
      obtain ⟨z, hz, q⟩ := post_ofO h1
      exact join_ok cg.K hz sr1 r1.now q
theorem sC : ∀ (c : To) (ifs : List Expr) (X : Cx) (W : WX) (k : Ck) (cg : CG F C Φ lv X W k) (hh : k.hot = false) (sc : Scope), okC ⟨k.N, sc, false, k.fs⟩ c ifs = true →
    (c = .no ∧ ifs = []) ∨ ∃ cc x, c = .some cc ∧ ifs = [x] ∧ ∀ s H Ca cl fp, SndT F C Φ (X.blk s H sc (compEnvC sc cl Ca X.env) fp) (fun _ _ _ _ => False) cc x
  | .no, ifs, X, W, k, cg, hh, sc, ok => by
    cases ifs with
    | nil => exact .inl ⟨rfl, rfl⟩
    | cons => cases ok
  | .some cc, ifs, X, W, k, cg, hh, sc, ok => by
    match ifs, ok with
    | [x], ok => exact .inr ⟨cc, x, rfl, rfl, fun s H Ca cl fp => sT cc x _ _ _ (cg_blk cg hh) ok⟩
    | [], ok => cases ok
    | _ :: _ :: _, ok => cases ok
theorem sI : ∀ (i : I) (ix : Expr) (X : Cx) (W : WX) (k : Ck), CG F C Φ lv X W k → okI k i ix = true → SndI F C Φ X W i ix
  | .seq a, ix, X, W, k, cg, ok => by
    simp only [okI, Bool.and_eq_true] at ok
    have iha := sE a ix X W k cg ok.1
    intro tg st g H σ env R _ sr er h
    simp only [evI] at h
    by_cases ht : ∃ ys s1, evE C Φ a env st = .ok (.tup ys) s1
    · obtain ⟨ys, s1, hr⟩ := ht
      refine ⟨_, pi_tup pe_wp, iha st g H σ env _ sr er (Post.bind h fun d s1' g1 H1 v hd sr1 x1 rv hp => ?_)⟩
      rw [hr] at hd
      cases hd
      cases rv with
      | @tup xs vs ad t r =>
        refine ⟨_, rfl, ⟨_, by rw [cg.K]; exact t.sq⟩, hp g1 H1 _ sr1 Ext.refl ?_⟩
        exact wki_tup X.K (fun g H => TupAt F g H ad vs ∧ Reps F g H ys vs) (fun g H g' H' x z => ⟨z.1.wk x, z.2.wk x⟩) ⟨t, r⟩ (fun g H z => by rw [cg.K]; exact z.1.sq) (fun g H z => z.2)
    · by_cases hs : ∃ z s1, evE C Φ a env st = .ok (.str z) s1
      · obtain ⟨z, s1, hr⟩ := hs
        refine ⟨_, pi_str pe_wp, iha st g H σ env _ sr er (Post.bind h fun d s1' g1 H1 v hd sr1 x1 rv hp => ?_)⟩
        rw [hr] at hd
        cases hd
        cases rv
        exact ⟨z, rfl, hp g1 H1 _ sr1 Ext.refl wki_str⟩
      · refine ⟨_, pi_list pe_wp, iha st g H σ env _ sr er (Post.bind h fun d s1 g1 H1 v hd sr1 x1 rv hp => ?_)⟩
        have ec : itemsC d = itemsD [] d := by
          unfold itemsC
          split
          · exact absurd ⟨_, _, hd⟩ hs
          · rfl
        rw [ec] at hp
        cases hx : itemsD [] d with
        | none => rw [hx] at hp; exact hp.elim
        | some xs =>
          rw [hx] at hp
          unfold itemsD at hx
          split at hx
          · exact absurd ⟨_, _, hd⟩ ht
          · cases hx
            cases rv with
            | @lst _ vs ad tt r => exact ⟨_, rfl, ⟨_, by rw [cg.K]; exact tt.sq⟩, hp g1 H1 _ sr1 Ext.refl (wki_list X.K (fun g H => LstAt F g H ad vs ∧ Reps F g H _ vs) (fun g H g' H' x z => ⟨z.1.wk x, z.2.wk x⟩) ⟨tt, r⟩ (fun g H z => by rw [cg.K]; exact z.1.sq) (fun g H z => z.2))⟩
          · cases hx
            cases rv with
            | @scr ns ad tt => exact ⟨_, rfl, ⟨_, by rw [cg.K]; exact tt.sq⟩, hp g1 H1 _ sr1 Ext.refl (wki_list X.K (fun g H => ScrAt F g H ad _) (fun g H g' H' x z => z.wk x) tt (fun g H z => by rw [cg.K]; exact z.sq) (fun g H z => reps_ints _))⟩
          · simp at hx
          · cases hx
  | .rng n, ix, X, W, k, cg, ok => by
    cases ix <;> first | cases ok | skip
    rename_i fn xs kws pos
    cases fn <;> first | cases ok | skip
    match xs, kws, ok with
    | [y], [], ok =>
      simp only [okI, Bool.and_eq_true, decide_eq_true_eq] at ok
      obtain ⟨⟨⟨rfl, o2⟩, o3⟩, o4⟩ := ok
      obtain ⟨g1, g2, g3⟩ := ck_gl cg o2
      have iha := sE n y X W k cg o3
      intro tg st g H σ env R _ sr er h
      simp only [evI] at h
      refine ⟨_, pi_range1 g1 (cg.bf _ (by decide)) (pa_cons pe_wp pa_nil (star_of o4)) (star_of o4), iha st g H σ env _ sr er (Post.bind h fun d s1 g1 H1 v _ sr1 x1 rv hp => ?_)⟩
      split at hp
      · cases rv
        split at hp
        · rename_i hz
          exact ⟨_, rfl, hz.1, hz.2, hp g1 H1 _ sr1 Ext.refl wki_rng⟩
        · exact hp.elim
      · exact hp.elim
  | .rng2 a b, ix, X, W, k, cg, ok => by
    cases ix <;> first | cases ok | skip
    rename_i fn xs kws pos
    cases fn <;> first | cases ok | skip
    match xs, kws, ok with
    | [x, y], [], ok =>
      simp only [okI, Bool.and_eq_true, decide_eq_true_eq] at ok
      obtain ⟨⟨⟨⟨⟨rfl, o2⟩, o3⟩, o4⟩, o5⟩, o6⟩ := ok
      obtain ⟨g1, g2, g3⟩ := ck_gl cg o2
      have iha := sE a x X W k cg o3
      have ihb := sE b y X W k cg o5
      intro tg st g H σ env R _ sr er h
      simp only [evI] at h
      refine ⟨_, pi_range2 g1 (cg.bf _ (by decide)) (pa_cons pe_wp (pa_cons pe_wp pa_nil (star_of o6)) (star_of o4)) (by rw [star_of o4, star_of o6]; rfl) (star_of o6), iha st g H σ env _ sr er (Post.bind h fun d s1 g1 H1 v _ sr1 x1 rv h1 => ihb s1 g1 H1 σ env _ sr1 (er.mono sr.live x1) (Post.bind h1 fun d2 s2 g2 H2 v2 _ sr2 x2 rv2 hp => ?_))⟩
      split at hp
      · cases rv; cases rv2
        split at hp
        · rename_i hz
          exact ⟨_, _, rfl, ⟨hz.1.1, hz.1.2, hz.2.1, hz.2.2⟩, hp g2 H2 _ sr2 Ext.refl wki_rng⟩
        · exact hp.elim
      · exact hp.elim
  | .enum a, ix, X, W, k, cg, ok => by
    cases ix <;> first | cases ok | skip
    rename_i fn xs kws pos
    cases fn <;> first | cases ok | skip
    match xs, kws, ok with
    | [y], [], ok =>
      simp only [okI, Bool.and_eq_true, decide_eq_true_eq] at ok
      obtain ⟨⟨⟨rfl, o2⟩, o3⟩, o4⟩ := ok
      obtain ⟨g1, g2, g3⟩ := ck_gl cg o2
      have iha := sE a y X W k cg o3
      intro tg st g H σ env R htg sr er h
      simp only [evI] at h
      cases tg <;> first | cases htg | skip
      refine ⟨_, pi_enum g1 (cg.bf _ (by decide)) (pa_cons pe_wp pa_nil (star_of o4)) (star_of o4), iha st g H σ env _ sr er (Post.bind h fun d s1 g1 H1 v _ sr1 x1 rv hp => ?_)⟩
      split at hp
      · cases rv with
        | @lst _ vs ad tt r => exact ⟨_, _, rfl, by rw [cg.K]; exact tt.sq, hp g1 H1 _ sr1 Ext.refl (wki_enum X.K (fun g H => LstAt F g H ad vs ∧ Reps F g H _ vs) (fun g H g' H' x z => ⟨z.1.wk x, z.2.wk x⟩) ⟨tt, r⟩ (fun g H z => by rw [cg.K]; exact z.1.sq) (fun g H z => z.2))⟩
      · exact hp.elim
  | .zip a b, ix, X, W, k, cg, ok => by
    cases ix <;> first | cases ok | skip
    rename_i fn xs kws pos
    cases fn <;> first | cases ok | skip
    match xs, kws, ok with
    | [x, y], [], ok =>
      simp only [okI, Bool.and_eq_true, decide_eq_true_eq] at ok
      obtain ⟨⟨⟨⟨⟨rfl, o2⟩, o3⟩, o4⟩, o5⟩, o6⟩ := ok
      obtain ⟨g1, g2, g3⟩ := ck_gl cg o2
      have iha := sE a x X W k cg o3
      have ihb := sE b y X W k cg o5
      intro tg st g H σ env R htg sr er h
      simp only [evI] at h
      cases tg <;> first | cases htg | skip
      refine ⟨_, pi_zip g1 (cg.bf _ (by decide)) (pa_cons pe_wp (pa_cons pe_wp pa_nil (star_of o6)) (star_of o4)) (star_of o4) (by rw [star_of o6]; rfl), iha st g H σ env _ sr er (Post.bind h fun d s1 g1 H1 v _ sr1 x1 rv h1 => ihb s1 g1 H1 σ env _ sr1 (er.mono sr.live x1) (Post.bind h1 fun d2 s2 g2 H2 v2 _ sr2 x2 rv2 hp => ?_))⟩
      split at hp
      · replace rv := rv.mono sr1.live x2
        cases rv with
        | @lst xs vs ad tt r =>
          cases rv2 with
          | @lst ys ws bd tt2 r2 =>
            refine ⟨_, _, _, _, rfl, by rw [cg.K]; exact tt.sq, by rw [cg.K]; exact tt2.sq, hp g2 H2 _ sr2 Ext.refl ?_⟩
            exact wki_zip X.K (fun g H => (LstAt F g H ad vs ∧ LstAt F g H bd ws) ∧ Reps F g H _ vs ∧ Reps F g H _ ws) (fun g H g' H' x z => ⟨⟨z.1.1.wk x, z.1.2.wk x⟩, z.2.1.wk x, z.2.2.wk x⟩) ⟨⟨tt, tt2⟩, r, r2⟩ (fun g H z => by rw [cg.K]; exact ⟨z.1.1.sq, z.1.2.sq⟩) (fun g H z => z.2)
      · exact hp.elim
theorem sJ : ∀ (es : Es) (xs : List Expr) (X : Cx) (W : WX) (k : Ck), CG F C Φ lv X W k → okEs k es xs = true → ∀ (acc : Str) (st : S) (g : G) (H : Hp) (σ : L2.St) (env : DE) (Q : VK), SR F st g H → ER F g H env σ →
    Post F (Rep F) g H Q (WE W σ) (evJ C Φ es acc env st) → tJs (xs.map (wpE X)) acc σ H fun out H1 => Q (.str out) H1
  | .nil, [], X, W, k, cg, ok => fun acc st g H σ env Q sr er h => h g H _ sr Ext.refl (.str _)
  | .cons e es, x :: xs, X, W, k, cg, ok => by
    simp only [okEs, Bool.and_eq_true] at ok
    obtain ⟨⟨o1, o2⟩, o3⟩ := ok
    have iha := sE e x X W k cg o2
    have ihb := sJ es xs X W k cg o3
    intro acc st g H σ env Q sr er h
    simp only [evJ] at h
    refine iha st g H σ env _ sr er (Post.bind h fun d1 s1 g1 H1 v1 _ sr1 x1 r1 h1 => ?_)
    split at h1
    · cases r1
      split at h1
      · rename_i hz
        exact ⟨_, rfl, hz, ihb _ s1 g1 H1 σ env Q sr1 (er.mono sr.live x1) h1⟩
      · exact h1.elim
    · exact h1.elim
  | .nil, _ :: _, _, _, _, _, ok => by cases ok
  | .cons _ _, [], _, _, _, _, ok => by cases ok
theorem sT : ∀ (e : T) (ex : Expr) (X : Cx) (W : WX) (k : Ck), CG F C Φ lv X W k → okT k e ex = true → SndT F C Φ X W e ex
  | .val a, ex, X, W, k, cg, ok => by
    simp only [okT, Bool.and_eq_true] at ok
    obtain ⟨o1, o2⟩ := ok
    have iha := sE a ex X W k cg o1
    intro st g H σ env Q sr er h
    simp only [evT] at h
    refine wp_t (pt_truth pe_wp (true_ok o2)) (iha st g H σ env _ sr er (Post.bind h fun d1 s1 g1 H1 v1 _ sr1 x1 r1 h1 => ?_))
    split at h1
    · rename_i b hb
      exact ⟨b, tru_of cg.K hb sr1 r1, h1 g1 H1 _ sr1 Ext.refl rfl⟩
    · exact h1.elim
  | .cmp op a b, ex, X, W, k, cg, ok => by
    cases ex <;> first | cases ok | skip
    rename_i x ops cs pos
    match ops, cs, ok with
    | [o], [y], ok =>
      simp only [okT, Bool.and_eq_true] at ok
      obtain ⟨⟨⟨o1, o2⟩, o3⟩, o4⟩ := ok
      have e := coB_ok o1
      subst e
      have iha := snd_b cg o2 (sE a x X W k cg o2)
      have ihb := snd_b cg o3 (sE b y X W k cg o3)
      intro st g H σ env Q sr er h
      simp only [evT] at h
      refine wp_t (pt_cmpR op_cmp pe_wp pe_wp (mark_ok o4)) (iha st g H σ env _ sr er (Post.bind h fun d1 s1 g1 H1 v1 _ sr1 x1 r1 h1 => ihb s1 g1 H1 σ env _ sr1 (er.mono sr.live x1) (Post.bind h1 fun d2 s2 g2 H2 v2 _ sr2 x2 r2 h2 => ?_)))
      split at h2
      · rename_i b hz
        exact cmp_ok cg.K cg.wv (by have := cg.un; omega) hz sr2 ((r1.mono sr1.live x2).res sr2) (r2.res sr2) ⟨b, rfl, h2 g2 H2 _ sr2 Ext.refl rfl⟩
      · exact h2.elim
  | .chain op op' a b c, ex, X, W, k, cg, ok => by
    cases ex <;> first | cases ok | skip
    rename_i x ops cs pos
    match ops, cs, ok with
    | [o, o'], [y, z], ok =>
      simp only [okT, Bool.and_eq_true] at ok
      obtain ⟨⟨⟨⟨⟨o1, o2⟩, o3⟩, o4⟩, o5⟩, o6⟩ := ok
      have e := coB_ok o1
      subst e
      have e := coB_ok o2
      subst e
      have iha := sE a x X W k cg o3
      have ihb := sE b y X W k cg o4
      have ihc := sE c z X W k cg o5
      intro st g H σ env Q sr er h
      simp only [evT] at h
      refine wp_t (pt_chain op_cmp op_cmp pe_wp pe_wp pe_wp (last_ok o6)) (iha st g H σ env _ sr er (Post.bind h fun d1 s1 g1 H1 v1 _ sr1 x1 r1 h1 => ihb s1 g1 H1 σ env _ sr1 (er.mono sr.live x1) (Post.bind h1 fun d2 s2 g2 H2 v2 _ sr2 x2 r2 h2 => ?_)))
      split at h2
      · rename_i hz
        refine cmp_ok cg.K cg.wv (by have := cg.un; omega) hz sr2 (.rep (r1.mono sr1.live x2)) (.rep r2) ⟨true, rfl, iteT (ihc s2 g2 H2 σ env _ sr2 (er.mono sr.live (x1.trans x2)) (Post.bind h2 fun d3 s3 g3 H3 v3 _ sr3 x3 r3 h3 => ?_))⟩
        split at h3
        · rename_i b hz
          exact cmp_ok cg.K cg.wv (by have := cg.un; omega) hz sr3 (.rep (r2.mono sr2.live x3)) (.rep r3) ⟨b, rfl, h3 g3 H3 _ sr3 Ext.refl rfl⟩
        · exact h3.elim
      · rename_i hz
        exact cmp_ok cg.K cg.wv (by have := cg.un; omega) hz sr2 (.rep (r1.mono sr1.live x2)) (.rep r2) ⟨false, rfl, iteF ⟨false, rfl, h2 g2 H2 _ sr2 Ext.refl rfl⟩⟩
      · exact h2.elim
  | .isN a, ex, X, W, k, cg, ok => by
    cases ex <;> first | cases ok | skip
    rename_i x ops cs pos
    match ops, cs, ok with
    | [.Is], [.Constant .none j p], ok =>
      have iha := sE a x X W k cg ok
      intro st g H σ env Q sr er h
      simp only [evT] at h
      refine wp_t (pt_cmp (pc_isN pe_wp) rfl) (iha st g H σ env _ sr er (Post.bind h fun d1 s1 g1 H1 v1 _ sr1 x1 r1 h1 => ?_))
      cases r1 <;> exact ⟨_, rfl, h1 g1 H1 _ sr1 Ext.refl rfl⟩
  | .notN a, ex, X, W, k, cg, ok => by
    cases ex <;> first | cases ok | skip
    rename_i x ops cs pos
    match ops, cs, ok with
    | [.IsNot], [.Constant .none j p], ok =>
      have iha := sE a x X W k cg ok
      intro st g H σ env Q sr er h
      simp only [evT] at h
      refine wp_t (pt_cmp (pc_notN pe_wp) rfl) (iha st g H σ env _ sr er (Post.bind h fun d1 s1 g1 H1 v1 _ sr1 x1 r1 h1 => ?_))
      cases r1 <;> exact ⟨_, rfl, h1 g1 H1 _ sr1 Ext.refl rfl⟩
  | .and a b, ex, X, W, k, cg, ok => by
    cases ex <;> first | cases ok | skip
    rename_i o vals pos
    cases o <;> first | cases ok | skip
    match vals, ok with
    | x :: y :: r, ok =>
      simp only [okT, Bool.and_eq_true] at ok
      obtain ⟨o1, o2⟩ := ok
      have iha := sT a x X W k cg o1
      have ihb : ∀ (st : S) (g : G) (H : Hp) (σ : L2.St) (env : DE) (Q : Bool → Hp → Prop), SR F st g H → ER F g H env σ → Post F (fun _ _ a b => a = b) g H Q (WE W σ) (evT C Φ b env st) → wpW X (.BoolOp .And (y :: r) pos) σ H Q := by
        cases r with
        | nil =>
          have ih := sT b y X W k cg o2
          exact fun st g H σ env Q sr er h => wp_w (pw_and1 pt_wp) (ih st g H σ env Q sr er h)
        | cons z r =>
          have ih := sT b _ X W k cg o2
          exact fun st g H σ env Q sr er h wh pins s I => ih st g H σ env Q sr er h pins s I
      intro st g H σ env Q sr er h
      simp only [evT] at h
      refine wp_t (PW.pt (pw_and pt_wp pw_wp)) (iha st g H σ env _ sr er (Post.bind h fun d1 s1 g1 H1 v1 _ sr1 x1 r1 h1 => ?_))
      subst r1
      cases d1 with
      | true => exact iteT (ihb s1 g1 H1 σ env _ sr1 (er.mono sr.live x1) (by simpa using h1))
      | false => exact iteF (by simpa using h1 g1 H1 _ sr1 Ext.refl rfl)
    | [], ok => cases ok
    | [_], ok => cases ok
  | .or a b, ex, X, W, k, cg, ok => by
    cases ex <;> first | cases ok | skip
    rename_i o vals pos
    cases o <;> first | cases ok | skip
    match vals, ok with
    | x :: y :: r, ok =>
      simp only [okT, Bool.and_eq_true] at ok
      obtain ⟨o1, o2⟩ := ok
      have iha := sT a x X W k cg o1
      have ihb : ∀ (st : S) (g : G) (H : Hp) (σ : L2.St) (env : DE) (Q : Bool → Hp → Prop), SR F st g H → ER F g H env σ → Post F (fun _ _ a b => a = b) g H Q (WE W σ) (evT C Φ b env st) → wpW X (.BoolOp .Or (y :: r) pos) σ H Q := by
        cases r with
        | nil =>
          have ih := sT b y X W k cg o2
          exact fun st g H σ env Q sr er h => wp_w (pw_or1 pt_wp) (ih st g H σ env Q sr er h)
        | cons z r =>
          have ih := sT b _ X W k cg o2
          exact fun st g H σ env Q sr er h wh pins s I => ih st g H σ env Q sr er h pins s I
      intro st g H σ env Q sr er h
      simp only [evT] at h
      refine wp_t (PW.pt (pw_or pt_wp pw_wp)) (iha st g H σ env _ sr er (Post.bind h fun d1 s1 g1 H1 v1 _ sr1 x1 r1 h1 => ?_))
      subst r1
      cases d1 with
      | true => exact iteT (by simpa using h1 g1 H1 _ sr1 Ext.refl rfl)
      | false => exact iteF (ihb s1 g1 H1 σ env _ sr1 (er.mono sr.live x1) (by simpa using h1))
    | [], ok => cases ok
    | [_], ok => cases ok
  | .not a, ex, X, W, k, cg, ok => by
    cases ex <;> first | cases ok | skip
    rename_i o x pos
    cases o <;> first | cases ok | skip
    have iha := sT a x X W k cg ok
    intro st g H σ env Q sr er h
    simp only [evT] at h
    refine wp_t (pt_not pt_wp) (iha st g H σ env _ sr er (Post.bind h fun d1 s1 g1 H1 v1 _ sr1 x1 r1 h1 => ?_))
    subst r1
    exact h1 g1 H1 _ sr1 Ext.refl rfl
theorem sO : ∀ (e : Eo) (ex : Option Expr) (X : Cx) (W : WX) (k : Ck), CG F C Φ lv X W k → okO k e ex = true → SndO F C Φ X W e ex
  | .no, none, X, W, k, cg, ok => fun st g H σ env Q sr er h => wp_o po_none (h g H _ sr Ext.refl rfl)
  | .some a, some x, X, W, k, cg, ok => by
    have iha := sE a x X W k cg ok
    intro st g H σ env Q sr er h
    simp only [evO] at h
    refine wp_o (po_some pe_wp) (iha st g H σ env _ sr er (Post.bind h fun d1 s1 g1 H1 v1 _ sr1 x1 r1 h1 => ?_))
    split at h1
    · cases r1
      exact ⟨_, rfl, h1 g1 H1 _ sr1 Ext.refl rfl⟩
    · exact h1.elim
  | .no, some _, _, _, _, _, ok => by cases ok
  | .some _, none, _, _, _, _, ok => by cases ok
theorem sEs : ∀ (es : Es) (xs : List Expr) (X : Cx) (W : WX) (k : Ck), CG F C Φ lv X W k → okEs k es xs = true → SndA F C Φ X W es xs
  | .nil, [], X, W, k, cg, ok => fun st g H σ env Q sr er h => wp_a pa_nil (h g H _ sr Ext.refl .nil)
  | .cons e es, x :: xs, X, W, k, cg, ok => by
    simp only [okEs, Bool.and_eq_true] at ok
    obtain ⟨⟨o1, o2⟩, o3⟩ := ok
    have iha := sE e x X W k cg o2
    have ihb := sEs es xs X W k cg o3
    intro st g H σ env Q sr er h
    simp only [evEs] at h
    exact wp_a (pa_cons pe_wp pa_wp (star_of o1)) (iha st g H σ env _ sr er (Post.bind h fun d1 s1 g1 H1 v1 _ sr1 x1 r1 h1 => ihb s1 g1 H1 σ env _ sr1 (er.mono sr.live x1) (Post.bind h1 fun ds s2 g2 H2 vs _ sr2 x2 r2 h2 => h2 g2 H2 _ sr2 Ext.refl (.cons (r1.mono sr1.live x2) r2))))
  | .nil, _ :: _, _, _, _, _, ok => by cases ok
  | .cons _ _, [], _, _, _, _, ok => by cases ok
end
end
end PV

set_option Elab.async false
set_option linter.all false
set_option maxRecDepth 100000
set_option maxHeartbeats 2000000
namespace PV
open PySem PySem.Spec PyProof.Rows L2
/-! ### statements -/
def wpS (X : Cx) (s : Stmt) : TS := fun D σ H => ∀ pins sh, Inv X pins σ H sh → wpAny (model X.prog X.w) X.A (exec s X.env) (SP X pins D) X.xe sh
def wpSs (X : Cx) (s : List Stmt) : TS := fun D σ H => ∀ pins sh, Inv X pins σ H sh → wpAny (model X.prog X.w) X.A (execs s X.env) (SP X pins D) X.xe sh
def wpGs (X : Cx) (ts : List Expr) : TGs := fun vs σ H Q => ∀ pins sh us, Inv X pins σ H sh → Vals vs us → wpAny (model X.prog X.w) X.A (assignInOrder ((assignEach ts X.env).map (·.2)) us) (fun _ s' => ∃ σ' H', Inv X pins σ' H' s' ∧ Q σ' H') X.xe sh
section
variable {X : Cx} {st : Stmt} {sts : List Stmt} {σ : L2.St} {H : Hp} {Dn : Ends} {tg : Expr}
theorem ps_wp : PS X st (wpS X st) := ⟨fun pins s _ _ _ I h => h pins s I⟩
theorem pss_wp : PSs X sts (wpSs X sts) := ⟨fun pins s _ _ _ I h => h pins s I⟩
theorem pgs_wp {ts : List Expr} : PGs X ts (wpGs X ts) := ⟨fun pins s _ _ _ us _ I r h => h pins s us I r⟩
theorem wp_s {t : TS} (h : PS X st t) (q : t Dn σ H) : wpS X st Dn σ H := fun pins s I => h.run pins s σ H Dn I q
theorem wp_ss {t : TS} (h : PSs X sts t) (q : t Dn σ H) : wpSs X sts Dn σ H := fun pins s I => h.run pins s σ H Dn I q
theorem wp_gs {ts : List Expr} {t : TGs} (h : PGs X ts t) {v : List V} {Q : L2.St → Hp → Prop} (q : t v σ H Q) : wpGs X ts v σ H Q := fun pins s u I r => h.run pins s σ H v u Q I r q
end
/-- a place where statements stand -/
structure CS (F : Fx) (C : Cn) (Φ : Fe) (lv : Nat) (X : Cx) (W : WX) (k : Ck) : Prop where
  cg : CG F C Φ lv X W k
  sc : X.env.scope = k.sc
  fn : ∀ x, X.fn x = true
  kd : X.env.scope.kind = .function
  hs : X.stack = X.env :: X.outer
  hf : X.env.frame = some X.env.locals
/-- the entry; what else is to stay -/
structure Bs where
  g0 : G
  H0 : Hp
  B : G → Hp → Prop
  stb : ∀ g H g' H', Wk g H g' H' → B g H → B g' H'
  m0 : ∀ a, g0.M a → ∃ o, H0 a = some o
/-- a slot with an object of its own -/
def Sl.mine : Sl → Bool
  | .own _ => true
  | .ownD _ => true
  | .self _ _ => true
  | _ => false
/-- the slots, over the entry -/
structure EX (F : Fx) (b : Bs) (g : G) (H : Hp) (env : DE) (σ : L2.St) : Prop where
  er : ER F g H env σ
  ext : Ext b.g0 b.H0 g H
  ob : ∀ (i : Nat) (s : Sl) (a : Addr), env[i]? = some s → s.mine = true → σ[i]? = some (some (V.ref a)) → b.H0 a = none
  bb : b.B g H
def PostS (F : Fx) (b : Bs) (Dn : Ends) (W : WX) : RS → Prop
  | .ok (.nx env) s => ∀ g' H' σ', SR F s g' H' → EX F b g' H' env σ' → Dn.nx σ' H'
  | .ok (.rt d) s => ∀ g' H' v, SR F s g' H' → Ext b.g0 b.H0 g' H' → Rep F g' H' d v → Dn.rt v H'
  | .ok (.bk env) s => ∀ g' H' σ', SR F s g' H' → EX F b g' H' env σ' → Dn.bk σ' H'
  | .ok (.ct env) s => ∀ g' H' σ', SR F s g' H' → EX F b g' H' env σ' → Dn.ct σ' H'
  | .exc x env s => ∀ g' H' σ' cls dd, SR F s g' H' → EX F b g' H' env σ' → XRep F g' H' x cls dd → W cls dd σ' H'
  | .bad => False
section
variable {F : Fx} {b : Bs} {Dn : Ends} {W : WX} {g g1 : G} {H H1 : Hp} {env : DE} {σ : L2.St} {st : S}
theorem EX.later (e : EX F b g H env σ) (l : Liv g) (x : Ext g H g1 H1) : EX F b g1 H1 env σ := ⟨e.er.mono l x, e.ext.trans x, e.ob, b.stb _ _ _ _ (x.wk l) e.bb⟩
theorem EX.set (e : EX F b g H env σ) {i : Nat} {d : D} {v : V} (r : Rep F g H d v) : EX F b g H (env.set i (.val d)) (σ.set i (some v)) where
  er := er_set e.er r
  ext := e.ext
  bb := e.bb
  ob := fun j xs a h hm h2 => by
    by_cases hj : i = j
    · subst hj
      have hl : i < env.length := by have := (List.getElem?_eq_some_iff.mp h).1; simpa using this
      rw [List.getElem?_set_self hl] at h
      cases h
      cases hm
    · rw [List.getElem?_set_ne hj] at h h2
      exact e.ob j xs a h hm h2
theorem postS_bind {α β : Type} {ρ : G → Hp → α → β → Prop} {Q : β → Hp → Prop} {r : R α} {kk : α → S → RS} (h : PostS F b Dn W (r.st env kk)) (sr : SR F st g H) (ex : EX F b g H env σ)
    (hk : ∀ a s1 g1 H1 v, r = .ok a s1 → SR F s1 g1 H1 → Ext g H g1 H1 → ρ g1 H1 a v → EX F b g1 H1 env σ → PostS F b Dn W (kk a s1) → Q v H1) : Post F ρ g H Q (WE W σ) r := by
  cases r with
  | ok a s => exact fun g' H' v sr' x' rv => hk a s g' H' v rfl sr' x' rv (ex.later sr.live x') h
  | exc x s => exact fun g' H' cls dd sr' x' xr => h g' H' σ cls dd sr' (ex.later sr.live x') xr
  | bad => exact h
theorem postS_seq {r : RS} {kk : DE → S → RS} {nx : L2.St → Hp → Prop} (h : PostS F b Dn W (r.sq kk)) (hk : ∀ env' s' g' H' σ', r = .ok (.nx env') s' → SR F s' g' H' → EX F b g' H' env' σ' → PostS F b Dn W (kk env' s') → nx σ' H') : PostS F b { Dn with nx := nx } W r := by
  cases r with
  | ok f s =>
    cases f with
    | nx env' => exact fun g' H' σ' sr' ex' => hk env' s g' H' σ' rfl sr' ex' h
    | rt d => exact h
    | bk e => exact h
    | ct e => exact h
  | exc x e s => exact h
  | bad => exact h
end
abbrev SndS (F : Fx) (C : Cn) (Φ : Fe) (X : Cx) (W : WX) (s : St') (sx : Stmt) : Prop :=
  ∀ (st : S) (g : G) (H : Hp) (σ : L2.St) (env : DE) (Dn : Ends) (b : Bs), SR F st g H → EX F b g H env σ → PostS F b Dn W (evS C Φ s env st) → wpS X sx Dn σ H
abbrev SndSs (F : Fx) (C : Cn) (Φ : Fe) (X : Cx) (W : WX) (s : Ss) (sx : List Stmt) : Prop :=
  ∀ (st : S) (g : G) (H : Hp) (σ : L2.St) (env : DE) (Dn : Ends) (b : Bs), SR F st g H → EX F b g H env σ → PostS F b Dn W (evSs C Φ s env st) → wpSs X sx Dn σ H
section
variable {F : Fx} {C : Cn} {Φ : Fe} {lv : Nat} {X : Cx} {W : WX} {k : Ck}
theorem ck_sto {i : Nat} {x : Str} (cs : CS F C Φ lv X W k) (h : k.sto i x = true) : X.N[i]? = some x ∧ Loc X.env.scope x := by
  unfold Ck.sto at h
  simp only [Bool.and_eq_true, decide_eq_true_eq] at h
  refine ⟨by rw [cs.cg.N]; exact h.1, ?_⟩
  unfold L2.Loc
  rw [cs.sc]
  have h2 := h.2
  split at h2
  · rename_i e; exact .inl e
  · rename_i e; exact .inr e
  · cases h2
theorem ck_loc {i : Nat} {x : Str} (cs : CS F C Φ lv X W k) (h : k.loc i x = true) : X.N[i]? = some x ∧ X.env.scope.names.lookup x = some .local := by
  unfold Ck.loc at h
  simp only [Bool.and_eq_true, decide_eq_true_eq] at h
  exact ⟨by rw [cs.cg.N]; exact h.1, cs.cg.loc x h.2⟩
theorem noComp_sw {e : Expr} {t : Option Expr} {l : Nat} {env : PySem.Env} (h : noComp e = true) : swapsWith e t l env = pure false := by
  cases e <;> first | rfl | cases h
theorem noComp_sole {e t : Expr} {l : Nat} {env : PySem.Env} (h : noComp e = true) : swapsWithSole [t] e l env = pure false := noComp_sw h
theorem noTup_sw {e t : Expr} {env : PySem.Env} (h : noTup e = true) : swappedStores [t] e env = pure none := by
  cases e <;> first | (cases t <;> rfl) | cases h
mutual
theorem sTg : ∀ (t : Tg) (tx : Expr), okTg k t tx = true → CS F C Φ lv X W k → k.hot = false → ∀ (st : S) (g : G) (H : Hp) (σ : L2.St) (env env' : DE) (d : D) (v : V) (Q : L2.St → Hp → Prop) (b : Bs),
      SR F st g H → EX F b g H env σ → Rep F g H d v → bindT t d env = some env' → (∀ σ', EX F b g H env' σ' → Q σ' H) → wpG X tx v σ H Q
  | .nm i, tx, ok, cs, hh, st, g, H, σ, env, env', d, v, Q, b, sr, ex, rv, hb, q => by
    cases tx <;> first | cases ok | skip
    obtain ⟨h1, h2⟩ := ck_sto cs ok
    simp only [bindT, Option.some.injEq] at hb
    subst hb
    exact wp_g (pg_name cs.cg.nd h1 h2 (.inl (cs.fn _))) (q _ (ex.set rv))
  | .tup ts, tx, ok, cs, hh, st, g, H, σ, env, env', d, v, Q, b, sr, ex, rv, hb, q => by
    cases tx <;> first | cases ok | skip
    rename_i es j pos
    have ih := sTgs ts es ok cs hh
    have hlen : ∀ {ts : Tgs} {es : List Expr}, okTgs k ts es = true → (assignEach es X.env).length = es.length ∧ (assignEach es X.env).findIdx? (·.1) = none := by
      intro ts es
      induction es generalizing ts with
      | nil => intro _; exact ⟨rfl, rfl⟩
      | cons e es ihe =>
        intro h
        cases ts with
        | nil => cases h
        | cons t ts =>
          simp only [okTgs, Bool.and_eq_true] at h
          obtain ⟨i1, i2⟩ := ihe h.2
          have e1 : assignEach (e :: es) X.env = (false, assign e X.env) :: assignEach es X.env := by
            have hn := h.1.2
            cases e <;> first | rfl | cases hn
          rw [e1]
          refine ⟨by simp [i1], ?_⟩
          rw [List.findIdx?_cons, i2]
          rfl
    obtain ⟨l1, l2⟩ := hlen ok
    cases rv with
    | tup t r =>
      rename_i xs vs a
      simp only [bindT] at hb
      have hxl : ∀ {ts : Tgs} {es : List Expr} {xs : List D} {env env' : DE}, okTgs k ts es = true → bindTs ts xs env = some env' → xs.length = es.length := by
        intro ts es
        induction es generalizing ts with
        | nil =>
          intro xs env env' h hb
          cases ts with
          | nil => cases xs with
            | nil => rfl
            | cons => cases hb
          | cons => cases h
        | cons e es ihe =>
          intro xs env env' h hb
          cases ts with
          | nil => cases h
          | cons t ts =>
            cases xs with
            | nil => cases hb
            | cons x xs =>
              simp only [okTgs, Bool.and_eq_true] at h
              simp only [bindTs] at hb
              split at hb
              · simp [ihe h.2 hb]
              · cases hb
      refine wp_g (pg_tup (cs.cg.calm hh) pgs_wp l1 l2) ⟨a, vs, rfl, by rw [cs.cg.K]; exact t.sq, by rw [← r.length]; exact hxl ok hb, ih st g H σ env env' xs vs Q b sr ex r hb q⟩
    | _ => simp [bindT] at hb
theorem sTgs : ∀ (ts : Tgs) (txs : List Expr), okTgs k ts txs = true → CS F C Φ lv X W k → k.hot = false → ∀ (st : S) (g : G) (H : Hp) (σ : L2.St) (env env' : DE) (ds : List D) (vs : List V) (Q : L2.St → Hp → Prop) (b : Bs),
      SR F st g H → EX F b g H env σ → Reps F g H ds vs → bindTs ts ds env = some env' → (∀ σ', EX F b g H env' σ' → Q σ' H) → wpGs X txs vs σ H Q
  | .nil, [], ok, cs, hh, st, g, H, σ, env, env', ds, vs, Q, b, sr, ex, rv, hb, q => by
    cases rv with
    | nil =>
      simp only [bindTs, Option.some.injEq] at hb
      subst hb
      exact wp_gs pgs_nil ⟨rfl, q σ ex⟩
    | cons => cases hb
  | .cons t ts, e :: es, ok, cs, hh, st, g, H, σ, env, env', ds, vs, Q, b, sr, ex, rv, hb, q => by
    simp only [okTgs, Bool.and_eq_true] at ok
    obtain ⟨⟨o1, o2⟩, o3⟩ := ok
    cases rv with
    | nil => cases hb
    | cons r rr =>
      simp only [bindTs] at hb
      split at hb
      · rename_i env1 h1
        refine wp_gs (pgs_cons pg_wp pgs_wp (by cases e <;> first | rfl | cases o2)) ⟨_, _, rfl, ?_⟩
        exact sTg t e o1 cs hh st g H σ env env1 _ _ _ b sr ex r h1 fun σ' ex' => sTgs ts es o3 cs hh st g H σ' env1 env' _ _ Q b sr ex' rr hb q
      · cases hb
  | .nil, _ :: _, ok, _, _, _, _, _, _, _, _, _, _, _, _, _, _, _, _, _ => by cases ok
  | .cons _ _, [], ok, _, _, _, _, _, _, _, _, _, _, _, _, _, _, _, _, _ => by cases ok
end
end
end PV

set_option Elab.async false
set_option linter.all false
set_option maxRecDepth 100000
set_option maxHeartbeats 2000000
namespace PV
open PySem PySem.Spec PyProof.Rows L2
section
variable {F : Fx} {C : Cn} {Φ : Fe} {lv : Nat} {X : Cx} {W : WX} {k : Ck}
/-- a numbered object is written -/
theorem SR.store {st : S} {g : G} {H : Hp} {n : Nat} {p : Addr} {o : O} {u : HO} (s : SR F st g H) (hn : g.mu n = some p) (hl : n < st.length) (ho : ORep F g (upd H p u) p o) : SR F (st.set n o) g (upd H p u) where
  at_ := fun i v h => by
    by_cases hi : n = i
    · subst hi
      rw [List.getElem?_set_self hl] at h
      cases h
      exact ⟨p, hn, ho⟩
    · rw [List.getElem?_set_ne hi] at h
      obtain ⟨a, e, r⟩ := s.at_ i v h
      refine ⟨a, e, r.wk (wk_wr (s.live _ _ hn)) fun w q => ?_⟩
      rw [upd_ne (show a ≠ p from fun z => hi (s.inj n i p hn (z ▸ e)))]
      exact q
  inj := s.inj
  dom := fun i a h => by rw [List.length_set]; exact s.dom i a h
  live := s.live
  mh := fun a m => by
    by_cases e : a = p
    · rw [e]; exact ⟨u, upd_same⟩
    · obtain ⟨v, q⟩ := s.mh a m
      exact ⟨v, by rw [upd_ne e]; exact q⟩
theorem Ext.store {g0 g : G} {H0 H : Hp} {n : Nat} {p : Addr} {u : HO} (x : Ext g0 H0 g H) (hn : g.mu n = some p) : Ext g0 H0 g (upd H p u) := by
  rcases x.nw n p hn with q | q
  · refine ⟨fun a o h na => ?_, x.mu, x.nw, x.fz, x.gh, fun a o h => ?_, x.sx⟩
    · rw [upd_ne (show a ≠ p from fun z => na n (z ▸ q))]
      exact x.keep a o h na
    · by_cases e : a = p
      · rw [e]; exact ⟨u, upd_same⟩
      · rw [upd_ne e]; exact x.stay a o h
  · exact x.wr q
theorem ER.wr {g : G} {H : Hp} {env : DE} {σ : L2.St} {p : Addr} {u : HO} (r : ER F g H env σ) (hm : g.M p) (hne : ∀ (i : Nat) (xs : List D), env[i]? = some (Sl.own xs) → σ[i]? ≠ some (some (V.ref p))) (hns : ∀ (i : Nat) (c : String) (fs : List (String × D)), env[i]? = some (Sl.self c fs) → σ[i]? ≠ some (some (V.ref p))) : ER F g (upd H p u) env σ where
  len := r.len
  val := fun i d h => by
    obtain ⟨v, h1, h2⟩ := r.val i d h
    exact ⟨v, h1, h2.wk (wk_wr hm)⟩
  own := fun i xs h => by
    obtain ⟨a, vs, h1, h2, h3, h4, h5⟩ := r.own i xs h
    refine ⟨a, vs, h1, ?_, h3.wk (wk_wr hm), h4, h5⟩
    rw [upd_ne (show a ≠ p from fun z => hne i xs h (z ▸ h1))]
    exact h2
  uq := r.uq
  nod := r.nod
  slf := fun i c fs h => by
    obtain ⟨h0, hc, hf, dx, fv, h1, h2, h3, h4, h5⟩ := r.slf i c fs h
    refine ⟨h0, hc, hf, dx, fv, h1, ?_, h3.wk (wk_wr hm), h4, h5⟩
    rw [upd_ne (show g.sx ≠ p from fun z => hns i c fs h (z ▸ h1))]
    exact h2
theorem ER.noSelf {g : G} {H : Hp} {env : DE} {σ : L2.St} {p : Addr} {vs : List V} (r : ER F g H env σ) (hp : H p = some (.lst vs)) : ∀ (i : Nat) (c : String) (fs : List (String × D)), env[i]? = some (Sl.self c fs) → σ[i]? ≠ some (some (V.ref p)) := fun i c fs h z => by
  obtain ⟨h0, hc, hf, dx, fv, h1, h2, h3, h4, h5⟩ := r.slf i c fs h
  rw [h1] at z
  cases z
  rw [h2] at hp
  cases hp
/-- a slot gets a list of its own at p -/
theorem er_own {g : G} {H : Hp} {env : DE} {σ : L2.St} (er : ER F g H env σ) {i : Nat} {ds : List D} {vs : List V} {p : Addr} (hH : H p = some (.lst vs)) (r : Reps F g H ds vs) (hm : g.M p) (hmu : ∀ j, g.mu j ≠ some p)
    (hne : ∀ (j : Nat) (xs : List D), i ≠ j → env[j]? = some (Sl.own xs) → σ[j]? ≠ some (some (V.ref p))) : ER F g H (env.set i (.own ds)) (σ.set i (some (.ref p))) where
  len := by simp [er.len]
  val := fun j e h => by
    by_cases hj : i = j
    · subst hj
      have hl : i < env.length := by have := (List.getElem?_eq_some_iff.mp h).1; simpa using this
      rw [List.getElem?_set_self hl] at h
      cases h
    · rw [List.getElem?_set_ne hj] at h ⊢
      exact er.val j e h
  own := fun j xs h => by
    by_cases hj : i = j
    · subst hj
      have hl : i < env.length := by have := (List.getElem?_eq_some_iff.mp h).1; simpa using this
      rw [List.getElem?_set_self hl] at h
      cases h
      exact ⟨p, vs, List.getElem?_set_self (by rw [← er.len]; exact hl), hH, r, hm, hmu⟩
    · rw [List.getElem?_set_ne hj] at h ⊢
      exact er.own j xs h
  uq := fun j1 j2 xs ys h1 h2 hj => by
    have at_i : ∀ {j : Nat} {xs : List D}, i = j → (env.set i (Sl.own ds))[j]? = some (Sl.own xs) → (σ.set i (some (V.ref p)))[j]? = some (some (V.ref p)) := fun {j xs} z h => by
      subst z
      have hl : i < env.length := by have := (List.getElem?_eq_some_iff.mp h).1; simpa using this
      exact List.getElem?_set_self (by rw [← er.len]; exact hl)
    by_cases a1 : i = j1
    · have a2 : i ≠ j2 := fun z => hj (a1.symm.trans z)
      rw [at_i a1 h1, List.getElem?_set_ne a2]
      rw [List.getElem?_set_ne a2] at h2
      exact fun z => hne j2 ys a2 h2 z.symm
    · by_cases a2 : i = j2
      · rw [at_i a2 h2, List.getElem?_set_ne a1]
        rw [List.getElem?_set_ne a1] at h1
        exact hne j1 xs a1 h1
      · rw [List.getElem?_set_ne a1] at h1 ⊢
        rw [List.getElem?_set_ne a2] at h2 ⊢
        exact er.uq j1 j2 xs ys h1 h2 hj
  nod := fun j kvs h => by
    by_cases hj : i = j
    · subst hj
      have hl : i < env.length := by have := (List.getElem?_eq_some_iff.mp h).1; simpa using this
      rw [List.getElem?_set_self hl] at h
      cases h
    · rw [List.getElem?_set_ne hj] at h
      exact er.nod j kvs h
  slf := fun j c fs h => by
    by_cases hj : i = j
    · subst hj
      have hl : i < env.length := by have := (List.getElem?_eq_some_iff.mp h).1; simpa using this
      rw [List.getElem?_set_self hl] at h
      cases h
    · rw [List.getElem?_set_ne hj] at h ⊢
      exact er.slf j c fs h
theorem EX.own {b : Bs} {g : G} {H : Hp} {env : DE} {σ : L2.St} (e : EX F b g H env σ) {i : Nat} {ds : List D} {vs : List V} {p : Addr} (hH : H p = some (.lst vs)) (r : Reps F g H ds vs) (hm : g.M p) (hmu : ∀ j, g.mu j ≠ some p) (h0 : b.H0 p = none)
    (hne : ∀ (j : Nat) (xs : List D), i ≠ j → env[j]? = some (Sl.own xs) → σ[j]? ≠ some (some (V.ref p))) : EX F b g H (env.set i (.own ds)) (σ.set i (some (.ref p))) where
  er := er_own e.er hH r hm hmu hne
  ext := e.ext
  bb := e.bb
  ob := fun j xs a h hm h2 => by
    by_cases hj : i = j
    · subst hj
      have hl : i < env.length := by have := (List.getElem?_eq_some_iff.mp h).1; simpa using this
      rw [List.getElem?_set_self (by rw [← e.er.len]; exact hl)] at h2
      cases h2
      exact h0
    · rw [List.getElem?_set_ne hj] at h h2
      exact e.ob j xs a h hm h2
/-- the list at p grows -/
theorem EX.grow {b : Bs} {g : G} {H : Hp} {env : DE} {σ : L2.St} {st : S} (e : EX F b g H env σ) (sr : SR F st g H) {i : Nat} {xs : List D} (hx : env[i]? = some (Sl.own xs)) {a : Addr} {vs : List V} (hs : σ[i]? = some (some (V.ref a))) (hH : H a = some (.lst vs)) (rx : Reps F g H xs vs) (hm : g.M a) (hmu : ∀ j, g.mu j ≠ some a)
    {d : D} {v : V} (rd : Rep F g H d v) : SR F st g (upd H a (.lst (vs ++ [v]))) ∧ EX F b g (upd H a (.lst (vs ++ [v]))) (env.set i (.own (xs ++ [d]))) σ := by
  have hne : ∀ (j : Nat) (ys : List D), i ≠ j → env[j]? = some (Sl.own ys) → σ[j]? ≠ some (some (V.ref a)) := fun j ys hj h z => e.er.uq i j xs ys hx h hj (hs.trans z.symm)
  have hil : i < env.length := (List.getElem?_eq_some_iff.mp hx).1
  have hσ : σ.set i (some (.ref a)) = σ := by
    obtain ⟨h1, h2⟩ := List.getElem?_eq_some_iff.mp hs
    rw [← h2]
    exact List.set_getElem_self h1
  refine ⟨sr.wr hm hmu, ?_⟩
  have h0 := e.ob i (.own xs) a hx rfl hs
  -- forget the slot first
  have er1 : ER F g (upd H a (.lst (vs ++ [v]))) (env.set i .no) σ := by
    have base : ER F g H (env.set i .no) σ := by
      refine ⟨by simp [e.er.len], fun j d' h => ?_, fun j ys h => ?_, fun j1 j2 ys zs h1 h2 hj => ?_, fun j kvs h => ?_, fun j c fs h => ?_⟩
      all_goals first
        | (by_cases hj' : i = j
           · subst hj'
             rw [List.getElem?_set_self hil] at h
             cases h
           · rw [List.getElem?_set_ne hj'] at h
             first | exact e.er.val j d' h | exact e.er.own j ys h | exact e.er.nod j kvs h | exact e.er.slf j c fs h)
        | skip
      by_cases a1 : i = j1
      · subst a1
        rw [List.getElem?_set_self hil] at h1
        cases h1
      · by_cases a2 : i = j2
        · subst a2
          rw [List.getElem?_set_self hil] at h2
          cases h2
        · rw [List.getElem?_set_ne a1] at h1
          rw [List.getElem?_set_ne a2] at h2
          exact e.er.uq j1 j2 ys zs h1 h2 hj
    refine base.wr hm (fun j ys h => ?_) (base.noSelf hH)
    by_cases hj : i = j
    · subst hj
      rw [List.getElem?_set_self hil] at h
      cases h
    · rw [List.getElem?_set_ne hj] at h
      exact hne j ys hj h
  have ex1 : EX F b g (upd H a (.lst (vs ++ [v]))) (env.set i .no) σ := ⟨er1, e.ext.wr h0, fun j ys c h hmn h2 => by
    by_cases hj : i = j
    · subst hj
      rw [List.getElem?_set_self hil] at h
      cases h
      cases hmn
    · rw [List.getElem?_set_ne hj] at h
      exact e.ob j ys c h hmn h2, b.stb _ _ _ _ (wk_wr hm) e.bb⟩
  have z := ex1.own (i := i) (ds := xs ++ [d]) (vs := vs ++ [v]) (p := a) upd_same ((rx.wk (wk_wr hm)).append (.cons (rd.wk (wk_wr hm)) .nil)) hm hmu h0 (fun j ys hj h => by
    rw [List.getElem?_set_ne hj] at h
    exact hne j ys hj h)
  rw [List.set_set, hσ] at z
  exact z
/-- .. by a list -/
theorem EX.growL {b : Bs} {g : G} {H : Hp} {env : DE} {σ : L2.St} {st : S} (e : EX F b g H env σ) (sr : SR F st g H) {i : Nat} {xs : List D} (hx : env[i]? = some (Sl.own xs)) {a : Addr} {vs : List V} (hs : σ[i]? = some (some (V.ref a))) (hH : H a = some (.lst vs)) (rx : Reps F g H xs vs) (hm : g.M a) (hmu : ∀ j, g.mu j ≠ some a)
    {ds : List D} {ws : List V} (rd : Reps F g H ds ws) : SR F st g (upd H a (.lst (vs ++ ws))) ∧ EX F b g (upd H a (.lst (vs ++ ws))) (env.set i (.own (xs ++ ds))) σ := by
  have hne : ∀ (j : Nat) (ys : List D), i ≠ j → env[j]? = some (Sl.own ys) → σ[j]? ≠ some (some (V.ref a)) := fun j ys hj h z => e.er.uq i j xs ys hx h hj (hs.trans z.symm)
  have hil : i < env.length := (List.getElem?_eq_some_iff.mp hx).1
  have hσ : σ.set i (some (.ref a)) = σ := by
    obtain ⟨h1, h2⟩ := List.getElem?_eq_some_iff.mp hs
    rw [← h2]
    exact List.set_getElem_self h1
  refine ⟨sr.wr hm hmu, ?_⟩
  have h0 := e.ob i (.own xs) a hx rfl hs
  -- forget the slot first
  have er1 : ER F g (upd H a (.lst (vs ++ ws))) (env.set i .no) σ := by
    have base : ER F g H (env.set i .no) σ := by
      refine ⟨by simp [e.er.len], fun j d' h => ?_, fun j ys h => ?_, fun j1 j2 ys zs h1 h2 hj => ?_, fun j kvs h => ?_, fun j c fs h => ?_⟩
      all_goals first
        | (by_cases hj' : i = j
           · subst hj'
             rw [List.getElem?_set_self hil] at h
             cases h
           · rw [List.getElem?_set_ne hj'] at h
             first | exact e.er.val j d' h | exact e.er.own j ys h | exact e.er.nod j kvs h | exact e.er.slf j c fs h)
        | skip
      by_cases a1 : i = j1
      · subst a1
        rw [List.getElem?_set_self hil] at h1
        cases h1
      · by_cases a2 : i = j2
        · subst a2
          rw [List.getElem?_set_self hil] at h2
          cases h2
        · rw [List.getElem?_set_ne a1] at h1
          rw [List.getElem?_set_ne a2] at h2
          exact e.er.uq j1 j2 ys zs h1 h2 hj
    refine base.wr hm (fun j ys h => ?_) (base.noSelf hH)
    by_cases hj : i = j
    · subst hj
      rw [List.getElem?_set_self hil] at h
      cases h
    · rw [List.getElem?_set_ne hj] at h
      exact hne j ys hj h
  have ex1 : EX F b g (upd H a (.lst (vs ++ ws))) (env.set i .no) σ := ⟨er1, e.ext.wr h0, fun j ys c h hmn h2 => by
    by_cases hj : i = j
    · subst hj
      rw [List.getElem?_set_self hil] at h
      cases h
      cases hmn
    · rw [List.getElem?_set_ne hj] at h
      exact e.ob j ys c h hmn h2, b.stb _ _ _ _ (wk_wr hm) e.bb⟩
  have z := ex1.own (i := i) (ds := xs ++ ds) (vs := vs ++ ws) (p := a) upd_same ((rx.wk (wk_wr hm)).append (rd.wk (wk_wr hm))) hm hmu h0 (fun j ys hj h => by
    rw [List.getElem?_set_ne hj] at h
    exact hne j ys hj h)
  rw [List.set_set, hσ] at z
  exact z
/-- a list of a slot's own becomes plain data -/
theorem EX.frz {b : Bs} {g : G} {H : Hp} {env : DE} {σ : L2.St} {st : S} (e : EX F b g H env σ) (sr : SR F st g H) {i : Nat} {xs : List D} (hx : env[i]? = some (Sl.own xs)) : ∃ g', SR F st g' H ∧ EX F b g' H (env.set i (.val (.lst xs))) σ := by
  obtain ⟨a, vs, hs, hH, rx, hm, hmu⟩ := e.er.own i xs hx
  have h0 := e.ob i (.own xs) a hx rfl hs
  have n0 : ¬ b.g0.M a := fun z => by
    obtain ⟨o, q⟩ := b.m0 a z
    rw [h0] at q; cases q
  have hil : i < env.length := (List.getElem?_eq_some_iff.mp hx).1
  have hσ : σ.set i (some (.ref a)) = σ := by
    obtain ⟨h1, h2⟩ := List.getElem?_eq_some_iff.mp hs
    rw [← h2]
    exact List.set_getElem_self h1
  refine ⟨g.free a, sr.free hmu, ?_⟩
  have er1 : ER F (g.free a) H (env.set i .no) σ := by
    have nj : ∀ {j : Nat} {s : Sl}, (env.set i Sl.no)[j]? = some s → s ≠ .no → i ≠ j ∧ env[j]? = some s := fun {j s} h hs => by
      by_cases hj : i = j
      · subst hj
        rw [List.getElem?_set_self hil] at h
        cases h
        exact absurd rfl hs
      · rw [List.getElem?_set_ne hj] at h
        exact ⟨hj, h⟩
    refine ⟨by simp [e.er.len], fun j d' h => ?_, fun j ys h => ?_, fun j1 j2 ys zs h1 h2 hj => ?_, fun j kvs h => ?_, fun j c fs h => ?_⟩
    · obtain ⟨v, h1, h2⟩ := e.er.val j d' (nj h (fun z => nomatch z)).2
      exact ⟨v, h1, h2.wk wk_free⟩
    · obtain ⟨hij, h'⟩ := nj h (fun z => nomatch z)
      obtain ⟨c, ws, h1, h2, h3, h4, h5⟩ := e.er.own j ys h'
      exact ⟨c, ws, h1, h2, h3.wk wk_free, ⟨h4, fun z => e.er.uq i j xs ys hx h' hij (by rw [hs, h1, z])⟩, h5⟩
    · exact e.er.uq j1 j2 ys zs (nj h1 (fun z => nomatch z)).2 (nj h2 (fun z => nomatch z)).2 hj
    · exact e.er.nod j kvs (nj h (fun z => nomatch z)).2
    · obtain ⟨h0, hc, hf, dx, fv, h1, h2, h3, h4, h5⟩ := e.er.slf j c fs (nj h (fun z => nomatch z)).2
      exact ⟨h0, hc, hf, dx, fv, h1, h2, h3.wk wk_free, ⟨h4, fun z => by rw [show g.sx = a from z, hH] at h2; cases h2⟩, h5⟩
  have ex1 : EX F b (g.free a) H (env.set i .no) σ := ⟨er1, e.ext.free n0, fun j ys c h hmn h2 => by
    by_cases hj : i = j
    · subst hj
      rw [List.getElem?_set_self hil] at h
      cases h
      cases hmn
    · rw [List.getElem?_set_ne hj] at h
      exact e.ob j ys c h hmn h2, b.stb _ _ _ _ wk_free e.bb⟩
  have z := ex1.set (i := i) (d := .lst xs) (v := .ref a) (.lst ⟨hH, fun z => z.2 rfl⟩ (rx.wk wk_free))
  rw [List.set_set, hσ] at z
  exact z
/-! ### an object that is being made -/
theorem RepF.length {g : G} {H : Hp} : ∀ {fs : List (String × D)} {fv : List (Str × V)}, RepF F g H fs fv → fs.length = fv.length
  | _, _, .nil => rfl
  | _, _, .cons _ r => by rw [List.length_cons, List.length_cons, RepF.length r]
theorem RepF.put {g : G} {H : Hp} {f : String} {d : D} {v : V} (rd : Rep F g H d v) : ∀ {fs : List (String × D)} {fv : List (Str × V)}, RepF F g H fs fv → RepF F g H (putD f d fs) (putF (Str.ofString f) v fv)
  | _, _, .nil => .cons rd .nil
  | _, _, @RepF.cons _ _ _ f' d' v' ds vs r1 r2 => by
    unfold putD putF
    by_cases e : f' = f
    · subst e
      rw [if_pos rfl, if_pos rfl]
      exact .cons rd r2
    · rw [if_neg e, if_neg (fun q => e (ofS_inj q))]
      exact .cons r1 (RepF.put rd r2)
theorem putD_mem {f : String} {d : D} (hf : isFld f = true) : ∀ {fs : List (String × D)}, (∀ p ∈ fs, isFld p.1 = true) → ∀ p ∈ putD f d fs, isFld p.1 = true
  | [], _, p, hp => by
    unfold putD at hp
    rw [List.mem_singleton] at hp
    subst hp
    exact hf
  | (g, x) :: r, h, p, hp => by
    unfold putD at hp
    split at hp
    · rcases List.mem_cons.mp hp with q | q
      · subst q; exact h (g, x) List.mem_cons_self
      · exact h p (List.mem_cons_of_mem _ q)
    · rcases List.mem_cons.mp hp with q | q
      · subst q; exact h (g, x) List.mem_cons_self
      · exact putD_mem hf (fun p hp => h p (List.mem_cons_of_mem _ hp)) p q
theorem ER.no {g : G} {H : Hp} {env : DE} {σ : L2.St} (r : ER F g H env σ) {i : Nat} (hil : i < env.length) : ER F g H (env.set i .no) σ := by
  have nj : ∀ {j : Nat} {s : Sl}, (env.set i Sl.no)[j]? = some s → s ≠ .no → env[j]? = some s := fun {j s} h hs => by
    by_cases hj : i = j
    · subst hj
      rw [List.getElem?_set_self hil] at h
      cases h
      exact absurd rfl hs
    · rw [List.getElem?_set_ne hj] at h
      exact h
  exact ⟨by simp [r.len], fun j d' h => r.val j d' (nj h (fun z => nomatch z)), fun j ys h => r.own j ys (nj h (fun z => nomatch z)), fun j1 j2 ys zs h1 h2 hj => r.uq j1 j2 ys zs (nj h1 (fun z => nomatch z)) (nj h2 (fun z => nomatch z)) hj,
    fun j kvs h => r.nod j kvs (nj h (fun z => nomatch z)), fun j c fs h => r.slf j c fs (nj h (fun z => nomatch z))⟩
theorem er_self {g : G} {H : Hp} {env : DE} {σ : L2.St} (er : ER F g H env σ) {c : String} {fs : List (String × D)} {fv : List (Str × V)} {dx : Addr} (hl : 0 < env.length) (hs : σ[0]? = some (some (V.ref g.sx))) (hc : F.cl c) (hf : ∀ p ∈ fs, isFld p.1 = true)
    (hH : H g.sx = some (.ins (F.ca c) dx fv)) (r : RepF F g H fs fv) (hm : g.M g.sx) (hmu : ∀ j, g.mu j ≠ some g.sx) : ER F g H (env.set 0 (.self c fs)) σ := by
  have nj : ∀ {j : Nat} {s : Sl}, (env.set 0 (Sl.self c fs))[j]? = some s → (j = 0 ∧ s = .self c fs) ∨ env[j]? = some s := fun {j s} h => by
    by_cases hj : 0 = j
    · subst hj
      rw [List.getElem?_set_self hl] at h
      cases h
      exact .inl ⟨rfl, rfl⟩
    · rw [List.getElem?_set_ne hj] at h
      exact .inr h
  refine ⟨by simp [er.len], fun j d' h => ?_, fun j ys h => ?_, fun j1 j2 ys zs h1 h2 hj => ?_, fun j kvs h => ?_, fun j c' fs' h => ?_⟩
  · rcases nj h with ⟨_, q⟩ | q
    · cases q
    · exact er.val j d' q
  · rcases nj h with ⟨_, q⟩ | q
    · cases q
    · exact er.own j ys q
  · rcases nj h1 with ⟨_, q1⟩ | q1
    · cases q1
    · rcases nj h2 with ⟨_, q2⟩ | q2
      · cases q2
      · exact er.uq j1 j2 ys zs q1 q2 hj
  · rcases nj h with ⟨_, q⟩ | q
    · cases q
    · exact er.nod j kvs q
  · rcases nj h with ⟨e, q⟩ | q
    · cases q
      exact ⟨e, hc, hf, dx, fv, by rw [e]; exact hs, hH, r, hm, hmu⟩
    · exact er.slf j c' fs' q
/-- an attribute of it is set -/
theorem EX.put {b : Bs} {g : G} {H : Hp} {env : DE} {σ : L2.St} {st : S} (e : EX F b g H env σ) (sr : SR F st g H) {i : Nat} {c : String} {fs : List (String × D)} (hx : env[i]? = some (Sl.self c fs)) {f : String} (hf : isFld f = true) {d : D} {v : V} (rd : Rep F g H d v) :
    ∃ a dx fv, σ[i]? = some (some (V.ref a)) ∧ H a = some (.ins (F.ca c) dx fv) ∧ F.cl c ∧ fv.length = fs.length ∧ SR F st g (upd H a (.ins (F.ca c) dx (putF (Str.ofString f) v fv))) ∧
      EX F b g (upd H a (.ins (F.ca c) dx (putF (Str.ofString f) v fv))) (env.set i (.self c (putD f d fs))) σ := by
  obtain ⟨hi, hc, hff, dx, fv, hs, hH, rx, hm, hmu⟩ := e.er.slf i c fs hx
  subst hi
  have hil : 0 < env.length := (List.getElem?_eq_some_iff.mp hx).1
  have h0 := e.ob 0 (.self c fs) _ hx rfl hs
  refine ⟨g.sx, dx, fv, hs, hH, hc, rx.length.symm, sr.wr hm hmu, ?_⟩
  have er1 : ER F g (upd H g.sx (.ins (F.ca c) dx (putF (Str.ofString f) v fv))) (env.set 0 .no) σ := (e.er.no hil).wr hm (fun j ys h z => by
      obtain ⟨a', vs', e1, e2, _⟩ := (e.er.no hil).own j ys h
      rw [z] at e1
      cases e1
      rw [hH] at e2
      cases e2) (fun j c' fs' h z => by
      obtain ⟨e0, _⟩ := (e.er.no hil).slf j c' fs' h
      subst e0
      rw [List.getElem?_set_self hil] at h
      cases h)
  have er2 := er_self er1 (by simpa using hil) hs hc (putD_mem (d := d) hf hff) upd_same ((RepF.put rd rx).wk (wk_wr hm)) hm hmu
  rw [List.set_set] at er2
  refine ⟨er2, e.ext.wr h0, fun j s c' h hmn h2 => ?_, b.stb _ _ _ _ (wk_wr hm) e.bb⟩
  by_cases hj : 0 = j
  · subst hj
    rw [hs] at h2
    cases h2
    exact h0
  · rw [List.getElem?_set_ne hj] at h
    exact e.ob j s c' h hmn h2
/-- a self slot has no list of a numbered object -/
theorem ER.noSelfMu {g : G} {H : Hp} {env : DE} {σ : L2.St} {p : Addr} {n : Nat} (r : ER F g H env σ) (hp : g.mu n = some p) : ∀ (i : Nat) (c : String) (fs : List (String × D)), env[i]? = some (Sl.self c fs) → σ[i]? ≠ some (some (V.ref p)) := fun i c fs h z => by
  obtain ⟨h0, hc, hf, dx, fv, h1, h2, h3, h4, h5⟩ := r.slf i c fs h
  rw [h1] at z
  cases z
  exact h5 n hp
end
end PV

set_option Elab.async false
set_option linter.all false
set_option maxRecDepth 100000
set_option maxHeartbeats 2000000
namespace PV
open PySem PySem.Spec PyProof.Rows L2
/-- C(), an own exception class without __init__ -/
theorem pmk_none {X : Cx} {C : Addr} {bmB : List Value} {B newId initId : String} {x : Str} {p pos : Pos} (F : ExcBaseFacts B newId initId bmB) (q : PySem.W.excIn X.K C bmB newId = true) (gC : X.mg x = some (.ref C)) (kC : PySem.W.keepIn X.K (.ref C) = true) (r : Raises X (.ref C)) (hg : Gl X x)
    (hdb : (x == ("__debug__" : Str)) = false) : PMk X (.Call (.Name x p) [] [] pos) (fun _ H Q => Q (.ref C) none H) := by
  intro pins s σ H Q I h
  refine wpAny_Call_Name_kw (ld_glob I hg gC ?_ hdb)
  refine PySem.W.callWith_K0 I.kIn kC ?_
  obtain ⟨bm, N, nm, qn, bs, hdct, sn, sub, ab, col, dd, k0, k1, k2, k3, k5, mN, hC, hN, hni, T⟩ := exc_obj I.kIn q
  refine wpAny_call_exc_subT F T hC hN hni (fun h' e hm => ?_) (by show 0 ≤ sizeLine; exact Nat.zero_le _)
  exact mk_of I hm r h (I.hok.gone hm.new)
section
variable {F : Fx} {C : Cn} {Φ : Fe} {lv : Nat} {X : Cx} {W : WX} {k : Ck}
/-- within a try's body -/
theorem CS.tr {W' : WX} {pn : List (Addr × Obj)} {xe : Value → Shared → Prop} (cs : CS F C Φ lv X W k) (tk : Takes (X.tr pn xe) W') (pw : PassesOwn (model X.prog X.w) X.A X.env xe) : CS F C Φ lv (X.tr pn xe) W' k where
  cg := { cs.cg with tk := tk, pw := pw, gl := cs.cg.gl, con := cs.cg.con }
  sc := cs.sc
  fn := cs.fn
  kd := cs.kd
  hs := cs.hs
  hf := cs.hf
/-- within an except suite -/
theorem CS.suite {a : Addr} {pn : List (Addr × Obj)} (cs : CS F C Φ lv X W k) : CS F C (fun _ _ _ => .bad) lv (X.suite a pn) (fun _ _ _ _ => False) ⟨k.N, k.sc, true, []⟩ where
  cg := { cs.cg with tk := takes0, pw := PassesOwn.never, gl := cs.cg.gl, con := cs.cg.con, calm := fun z => Bool.noConfusion z, ro := fun z => Bool.noConfusion z, mts := fun z => Bool.noConfusion z, fns := fun z => Bool.noConfusion z }
  sc := cs.sc
  fn := cs.fn
  kd := cs.kd
  hs := cs.hs
  hf := cs.hf
theorem PostS.ends {b : Bs} {Dn Dn' : Ends} {r : RS} (h : PostS F b Dn W r) (h1 : ∀ σ H, Dn.nx σ H → Dn'.nx σ H) (h2 : Dn'.rt = Dn.rt) (h3 : ∀ σ H, Dn.bk σ H → Dn'.bk σ H) (h4 : ∀ σ H, Dn.ct σ H → Dn'.ct σ H) : PostS F b Dn' W r := by
  cases r with
  | ok f s =>
    cases f with
    | nx e => exact fun g' H' σ' sr ex => h1 _ _ (h g' H' σ' sr ex)
    | rt d => exact fun g' H' v sr ex rv => by rw [h2]; exact h g' H' v sr ex rv
    | bk e => exact fun g' H' σ' sr ex => h3 _ _ (h g' H' σ' sr ex)
    | ct e => exact fun g' H' σ' sr ex => h4 _ _ (h g' H' σ' sr ex)
  | exc x e s => exact h
  | bad => exact h
/-- one turn of a loop: from the loop's result to the body's -/
theorem post_turn {b : Bs} {Dn : Ends} {f : D → DE → S → RS} {x : D} {xs : List D} {env : DE} {st : S} (h : PostS F b Dn W (loopS f (x :: xs) env st)) {N : L2.St → Hp → Prop}
    (hN : ∀ env' s' g' H' σ', SR F s' g' H' → EX F b g' H' env' σ' → PostS F b Dn W (loopS f xs env' s') → N σ' H') : PostS F b { Dn with nx := N, ct := N, bk := Dn.nx } W (f x env st) := by
  simp only [loopS] at h
  cases e : f x env st with
  | ok fl s =>
    rw [e] at h
    cases fl with
    | nx env' => exact fun g' H' σ' sr ex => hN env' s g' H' σ' sr ex h
    | rt d => exact h
    | bk env' => exact h
    | ct env' => exact fun g' H' σ' sr ex => hN env' s g' H' σ' sr ex h
  | exc x e s => rw [e] at h; exact h
  | bad => rw [e] at h; exact h
def Bs.and (b : Bs) (P : G → Hp → Prop) (sp : ∀ g H g' H', Wk g H g' H' → P g H → P g' H') : Bs :=
  { b with B := fun g H => b.B g H ∧ P g H, stb := fun g H g' H' x h => ⟨b.stb g H g' H' x h.1, sp g H g' H' x h.2⟩ }
theorem EX.less {b : Bs} {P : G → Hp → Prop} {sp : ∀ g H g' H', Wk g H g' H' → P g H → P g' H'} {g : G} {H : Hp} {env : DE} {σ : L2.St} (e : EX F (b.and P sp) g H env σ) : EX F b g H env σ := ⟨e.er, e.ext, e.ob, e.bb.1⟩
theorem EX.more {b : Bs} {P : G → Hp → Prop} {sp : ∀ g H g' H', Wk g H g' H' → P g H → P g' H'} {g : G} {H : Hp} {env : DE} {σ : L2.St} (e : EX F b g H env σ) (p : P g H) : EX F (b.and P sp) g H env σ := ⟨e.er, e.ext, e.ob, e.bb, p⟩
theorem PostS.more {b : Bs} {P : G → Hp → Prop} {sp : ∀ g H g' H', Wk g H g' H' → P g H → P g' H'} {Dn : Ends} {r : RS} (h : PostS F b Dn W r) : PostS F (b.and P sp) Dn W r := by
  cases r with
  | ok f s =>
    cases f with
    | nx e => exact fun g' H' σ' sr ex => h g' H' σ' sr ex.less
    | rt d => exact fun g' H' v sr ex rv => h g' H' v sr ex rv
    | bk e => exact fun g' H' σ' sr ex => h g' H' σ' sr ex.less
    | ct e => exact fun g' H' σ' sr ex => h g' H' σ' sr ex.less
  | exc x e s => exact fun g' H' σ' cls dd sr ex xr => h g' H' σ' cls dd sr ex.less xr
  | bad => exact h
/-- a for over a list or tuple that stands still -/
theorem for_sound {b : Bs} {Dn : Ends} {f : D → DE → S → RS} {tx : Expr} {body : List Stmt} (K : PySem.W.Frag) {xs : List D} {vs : List V} {a : Addr} {g1 : G} {H1 : Hp} {σ : L2.St} {env : DE} {s1 : S} (isT : Bool)
    (P : G → Hp → Prop) (sp : ∀ g H g' H', Wk g H g' H' → P g H → P g' H') (hP : P g1 H1) (hsq : ∀ g H, P g H → if isT = true then SqT K H a vs else SqL K H a vs) (hr : ∀ g H, P g H → Reps F g H xs vs)
    (turn : ∀ (d : D) (v : V) (st : S) (g : G) (H : Hp) (σ : L2.St) (env : DE) (Dn' : Ends) (b' : Bs), SR F st g H → EX F b' g H env σ → Rep F g H d v → PostS F b' Dn' W (f d env st) → wpG X tx v σ H fun σ2 H2 => wpSs X body Dn' σ2 H2)
    (sr : SR F s1 g1 H1) (ex : EX F b g1 H1 env σ) (h : PostS F b Dn W (loopS f xs env s1)) :
    ∃ Pv : Nat → L2.St → Hp → Prop, Pv 0 σ H1 ∧ (∀ j σ' H', Pv j σ' H' → if isT = true then SqT K H' a vs else SqL K H' a vs) ∧
      (∀ j v σ' H', vs[j]? = some v → Pv j σ' H' → wpG X tx v σ' H' fun σ2 H2 => wpSs X body { Dn with nx := Pv (j + 1), ct := Pv (j + 1), bk := Dn.nx } σ2 H2) ∧ ∀ σ' H', Pv vs.length σ' H' → Dn.nx σ' H' := by
  refine ⟨fun j σ' H' => ∃ g' env' st', SR F st' g' H' ∧ EX F (b.and P sp) g' H' env' σ' ∧ PostS F b Dn W (loopS f (xs.drop j) env' st'), ?_, ?_, ?_, ?_⟩
  · exact ⟨g1, env, s1, sr, ex.more hP, h⟩
  · rintro j σ' H' ⟨g', _, _, _, ex', _⟩
    exact hsq g' H' ex'.bb.2
  · rintro j v σ' H' hv ⟨g', env', st', sr', ex', h'⟩
    obtain ⟨d, hd, rd⟩ := (hr g' H' ex'.bb.2).get' hv
    have hdrop : xs.drop j = d :: xs.drop (j + 1) := by
      obtain ⟨hl, e1⟩ := List.getElem?_eq_some_iff.mp hd
      rw [← e1]
      exact List.drop_eq_getElem_cons hl
    rw [hdrop] at h'
    refine turn d v st' g' H' σ' env' _ (b.and P sp) sr' ex' rd ?_
    have hm : PostS F (b.and P sp) Dn W (loopS f (d :: xs.drop (j + 1)) env' st') := h'.more
    simp only [loopS] at hm h'
    cases e : f d env' st' with
    | ok fl s =>
      rw [e] at hm h'
      cases fl with
      | nx env2 => exact fun g2 H2 σ2 sr2 ex2 => ⟨g2, env2, s, sr2, ex2, h'⟩
      | rt d => exact hm
      | bk env2 => exact hm
      | ct env2 => exact fun g2 H2 σ2 sr2 ex2 => ⟨g2, env2, s, sr2, ex2, h'⟩
    | exc x e s => rw [e] at hm; exact hm
    | bad => rw [e] at hm; exact hm
  · rintro σ' H' ⟨g', env', st', sr', ex', h'⟩
    rw [← (hr g' H' ex'.bb.2).length, List.drop_length] at h'
    exact h' g' H' σ' sr' ex'.less
end
end PV

set_option Elab.async false
set_option linter.all false
set_option maxRecDepth 100000
set_option maxHeartbeats 2000000
namespace PV
open PySem PySem.Spec PyProof.Rows L2
section
variable {F : Fx} {C : Cn} {lv : Nat}
theorem par_swap {k : Ck} {env : PySem.Env} {x y : Str} {px py pt pt2 : Pos} {kt k2 : Nat} {a b : Expr} (hsc : env.scope = k.sc) (hk : env.scope.kind = .function) (n1 : nstar a = true) (n2 : nstar b = true) (h : parS k x y px py a b = true) :
    swappedStores [.Tuple [.Name x px, .Name y py] kt pt] (.Tuple [a, b] k2 pt2) env = pure (some [x, y]) := by
  unfold parS at h
  simp only [Bool.and_eq_true, Bool.not_eq_true'] at h
  obtain ⟨⟨⟨⟨⟨h1, h2⟩, h3⟩, h4⟩, h5⟩, h6⟩ := h
  have l1 : env.kindOf x = some .local := by
    show env.scope.names.lookup x = _
    rw [hsc]
    cases e : k.sc.names.lookup x with
    | none => rw [e] at h1; cases h1
    | some kd => rw [e] at h1; cases kd <;> first | rfl | cases h1
  have l2 : env.kindOf y = some .local := by
    show env.scope.names.lookup y = _
    rw [hsc]
    cases e : k.sc.names.lookup y with
    | none => rw [e] at h2; cases h2
    | some kd => rw [e] at h2; cases kd <;> first | rfl | cases h2
  have hb : env.blockKind = .function := by unfold Env.blockKind; rw [hk]; rfl
  have hl : (px.line == px.line) = true := by simp
  have hl2 : (py.line == px.line) = true := by
    have := eq_of_beq h3
    rw [this]; simp
  have hxy : (x == y) = false := h4
  have hyx : (y == x) = false := by
    cases e : y == x with
    | false => rfl
    | true =>
      have := eq_of_beq e
      rw [this] at hxy
      simp at hxy
  have hf : ([a, b].all (foldedForSure 8)) = false := by simpa using h5
  have hc : ([a, b].all (constantsAlone 8)) = false := by simpa using h6
  unfold swappedStores
  simp only [hb, l1, l2, hf, hc, hl2, Expr.pos, List.head?_cons, Option.map_some, Option.getD_some, List.length_cons, List.length_nil, List.filterMap_cons, List.filterMap_nil, List.eraseDups_cons, List.eraseDups_nil]
  simp [hxy, hyx, List.eraseDups_cons]
  intro z
  exfalso
  clear hf hc h5 h6
  rcases z with z | z
  · cases a <;> first | (cases z; done) | cases n1
  · cases b <;> first | (cases z; done) | cases n2
theorem par_tup {k : Ck} {env : PySem.Env} {x y : Str} {px py pt pt2 : Pos} {kt k2 : Nat} {a b : Expr} (hsc : env.scope = k.sc) (h : parT k x y a b = true) :
    swappedStores [.Tuple [.Name x px, .Name y py] kt pt] (.Tuple [a, b] k2 pt2) env = pure none := by
  unfold parT at h
  rw [Bool.or_eq_true] at h
  rcases h with h | h
  · have hf : ([a, b].all (foldedForSure 8)) = true := by simpa using h
    unfold swappedStores
    simp only [hf]
    simp only [if_true]
    split
    · rfl
    · split
      · rfl
      · split <;> rfl
  · have key : (env.kindOf x == some .local && env.kindOf y == some .local) = false := by
      show (env.scope.names.lookup x == _ && env.scope.names.lookup y == _) = _
      rw [hsc]
      cases e1 : k.sc.names.lookup x with
      | none => rfl
      | some k1 => cases e2 : k.sc.names.lookup y with
        | none => cases k1 <;> rfl
        | some k2 => rw [e1, e2] at h; cases k1 <;> cases k2 <;> first | rfl | cases h
    have ln : (([Expr.Name x px, Expr.Name y py].filterMap fun
        | .Name id pos => if env.kindOf id == some .local && pos.line == px.line then some id else none
        | _ => none).length != 2) = true := by
      simp only [List.filterMap_cons, List.filterMap_nil]
      cases e1 : (env.kindOf x == some .local) with
      | false => cases e2 : (env.kindOf y == some .local && py.line == px.line) <;> simp
      | true =>
        rw [e1, Bool.true_and] at key
        rw [key]
        simp
    unfold swappedStores
    dsimp only
    split
    · rfl
    · split
      · rfl
      · rw [if_pos]
        rw [Bool.or_eq_true]
        exact .inl ln
end
end PV

set_option Elab.async false
set_option linter.all false
set_option maxRecDepth 100000
set_option maxHeartbeats 4000000
set_option exponentiation.threshold 30000
namespace PV
open PySem PySem.Spec PyProof.Rows L2
theorem rip_ok {X : Cx} {op : Operator} : PIp X op (rIp X op) := fun pins s σ H x y v u Q I rx ry h => h pins s σ v u I rx ry
theorem ip_of {F : Fx} {X : Cx} {st : S} {g : G} {H : Hp} {Q : VK} {d e z : D} {x y : V} {op : BO} (h : augD op d e = some z) (s : SR F st g H) (rd : Rep F g H d x) (re : Rep F g H e y) (q : Go F st g H Q z) : rIp X (opOf op) x y H Q := by
  unfold augD at h
  split at h
  · cases rd; cases re; cases h
    exact fun pins s' σ v u I rx ry => ip_add pins s' σ H _ _ v u Q I rx ry ⟨_, _, rfl, rfl, q.same s (.int _)⟩
  · cases rd; cases re; cases h
    exact fun pins s' σ v u I rx ry => ip_sub pins s' σ H _ _ v u Q I rx ry ⟨_, _, rfl, rfl, q.same s (.int _)⟩
  · cases h
section
variable {F : Fx} {C : Cn} {lv : Nat}
theorem set_sw {e : Expr} {t : Option Expr} {l : Nat} {env : PySem.Env} (h : ∀ a b c d, e ≠ .ListComp a b c d) (h2 : ∀ a b c d, e ≠ .SetComp a b c d) (h3 : ∀ a b c d e', e ≠ .DictComp a b c d e') : swapsWith e t l env = pure false := by
  cases e <;> first | rfl | exact absurd rfl (h _ _ _ _) | exact absurd rfl (h2 _ _ _ _) | exact absurd rfl (h3 _ _ _ _ _)
theorem PostS.nox {b : Bs} {Dn : Ends} {W W' : WX} {r : RS} (h : PostS F b Dn W r.nox) : PostS F b Dn W' r := by
  cases r with
  | ok f s => cases f <;> exact h
  | exc x e s => exact h.elim
  | bad => exact h
theorem own_new {b : Bs} {s1 : S} {g1 : G} {H1 : Hp} {env : DE} {σ : L2.St} {ds : List D} {vs : List V} {p : Addr} {i : Nat} (sr1 : SR F s1 g1 H1) (ex1 : EX F b g1 H1 env σ) (r1 : Reps F g1 H1 ds vs) (hp : H1 p = none) :
    SR F s1 (g1.own p) (upd H1 p (.lst vs)) ∧ EX F b (g1.own p) (upd H1 p (.lst vs)) (env.set i (.own ds)) (σ.set i (some (.ref p))) := by
  have x2 : Ext g1 H1 (g1.own p) (upd H1 p (.lst vs)) := ext_own sr1 hp
  have ex2 := ex1.later sr1.live x2
  refine ⟨sr1.own hp, ex2.own (i := i) upd_same (r1.mono sr1.live x2) (.inl rfl) (show ∀ j, g1.mu j ≠ some p from mu_of_none sr1 hp) ?_ fun j ys _ hj z => ?_⟩
  · cases e0 : b.H0 p with
    | none => rfl
    | some o =>
      obtain ⟨o', e1⟩ := ex1.ext.stay p o e0
      rw [hp] at e1
      cases e1
  · obtain ⟨a', vs', e1, e2, _⟩ := ex1.er.own j ys hj
    rw [z] at e1
    cases e1
    rw [hp] at e2
    cases e2
mutual
theorem sS : ∀ (s : St') (sx : Stmt) (Φ : Fe) (X : Cx) (W : WX) (k : Ck), CS F C Φ lv X W k → okS k s sx = true → SndS F C Φ X W s sx
  | .expr e, sx, Φ, X, W, k, cs, ok => by
    cases sx <;> first | cases ok | skip
    rename_i x pos
    simp only [okS, Bool.and_eq_true] at ok
    have ih := sE e x X W k cs.cg ok.1
    intro st g H σ env Dn b sr ex h
    refine wp_s (ps_expr pe_wp (noComp_sw ok.2)) (ih st g H σ env _ sr ex.er (postS_bind h sr ex fun d s1 g1 H1 v _ sr1 x1 r1 ex1 h1 => h1 g1 H1 σ sr1 ex1))
  | .set i e, sx, Φ, X, W, k, cs, ok => by
    cases sx <;> first | cases ok | skip
    rename_i tgs ex pos
    match tgs, ok with
    | [.Name x px], ok =>
      simp only [okS, Bool.and_eq_true] at ok
      obtain ⟨o1, o2⟩ := ok
      intro st g H σ env Dn b sr exx h
      by_cases hc : ∃ a b c d, ex = .ListComp a b c d
      · obtain ⟨el, gens, sc, pc, rfl⟩ := hc
        simp only [Bool.and_eq_true, Bool.not_eq_true'] at o2
        obtain ⟨⟨q1, q2⟩, q3⟩ := o2
        obtain ⟨n1, n2⟩ := ck_loc cs q1
        by_cases hci : ∃ el t it c, e = .compI el t it c
        · obtain ⟨ee, t, it, c, rfl⟩ := hci
          match gens, o1 with
          | [⟨tg, z, ifs, a⟩], o1 =>
            simp only [okE, Bool.and_eq_true, decide_eq_true_eq, Bool.not_eq_true'] at o1
            obtain ⟨⟨⟨⟨rfl, p0⟩, p1⟩, p2⟩, p3⟩ := o1
            cases ht : tgNs t tg with
            | none => rw [ht] at p3; cases p3
            | some own =>
              rw [ht] at p3
              simp only [Bool.and_eq_true] at p3
              obtain ⟨⟨⟨p4, p5⟩, p6⟩, p7⟩ := p3
              have hp : Post F (Rep F) g H (fun x H1 => gName i x σ H1 Dn.nx) (WE W σ) (evE C Φ (.compI ee t it c) env st) :=
                postS_bind h sr exx fun d s1 g1 H1 v _ sr1 x1 r1 ex1 h1 => h1 g1 H1 _ sr1 (ex1.set r1)
              have hc := sC c ifs X W k cs.cg p0 sc p6
              obtain ⟨wi, w1, w2⟩ := compI_core cs.cg p0 ht p2 (own_ok p5) (sI it z X W k cs.cg p1) hc (fun s H Ca cl fp => sE ee el _ _ _ (cg_blk cs.cg p0) p7) st g H σ env _ sr exx.er hp
              exact wp_s (ps_setLc (own := own) (cs.cg.calm p0) cs.cg.nd n1 n2 (sw_true cs.kd n2 q2 q3) w1 (cs.cg.blk sc _ p4) (fun s H Ca cl fp => ⟨fun pins s1 σ1 H1 v u Q I r q => q s H Ca cl fp pins s1 u I r⟩)
                (fun s H Ca cl fp => blk_pts (by rcases hc with ⟨_, e⟩ | ⟨_, _, _, e, _⟩ <;> simp [e]) s H Ca cl fp) (fun s H Ca cl fp => ⟨fun pins s1 σ1 H1 Q1 I q => q s H Ca cl fp pins s1 I⟩) (okI_fold p1)) w2
        cases e <;> first | cases o1 | exact absurd ⟨_, _, _, _, rfl⟩ hci | skip
        rename_i ee ii it
        match gens, o1 with
        | [⟨.Name y py, z, [], a⟩], o1 =>
          simp only [okE, Bool.and_eq_true, decide_eq_true_eq, Bool.not_eq_true'] at o1
          obtain ⟨⟨⟨⟨⟨⟨⟨rfl, p1⟩, p2⟩, p3⟩, p4⟩, p5⟩, p6⟩, p7⟩ := o1
          have hp : Post F (Rep F) g H (fun x H1 => gName i x σ H1 Dn.nx) (WE W σ) (evE C Φ (.comp ee ii it) env st) :=
            postS_bind h sr exx fun d s1 g1 H1 v _ sr1 x1 r1 ex1 h1 => h1 g1 H1 _ sr1 (ex1.set r1)
          obtain ⟨wi, w1, w2⟩ := comp_core (px := py) cs.cg p1 p2 p4 p5 (fold_ok p7) (sE it z X W k cs.cg p3) (fun s H Ca cl fp => sE ee el _ _ _ (cg_blk cs.cg p1) p6) st g H σ env _ sr exx.er hp
          exact wp_s (comp_set (el := ee) (it := it) cs.cg p1 p2 p4 p5 (fold_ok p7) n1 n2 (sw_true cs.kd n2 q2 q3) w1) w2
      · have hsc : ∀ a b c d, ex ≠ .SetComp a b c d := fun a b c d z => by subst z; cases o2
        have hdc : ∀ a b c d e', ex ≠ .DictComp a b c d e' := fun a b c d e' z => by subst z; cases o2
        have hst : k.sto i x = true := by
          cases ex <;> first | exact o2 | cases o2 | exact absurd ⟨_, _, _, _, rfl⟩ hc
        obtain ⟨n1, n2⟩ := ck_sto cs hst
        have ih := sE e ex X W k cs.cg o1
        refine wp_s (ps_set cs.cg.nd n1 n2 pe_wp (set_sw (fun a b c d z => hc ⟨a, b, c, d, z⟩) hsc hdc) (.inl (cs.fn _))) (ih st g H σ env _ sr exx.er (postS_bind h sr exx fun d s1 g1 H1 v _ sr1 x1 r1 ex1 h1 => h1 g1 H1 _ sr1 (ex1.set r1)))
  | .par i j a b, sx, Φ, X, W, k, cs, ok => by
    cases sx <;> first | cases ok | skip
    rename_i tgs ex pos
    match tgs, ex, ok with
    | [.Tuple [.Name x px, .Name y py] kt pt], .Tuple [ea, eb] k2 pt2, ok =>
      simp only [okS, Bool.and_eq_true, Bool.not_eq_true', decide_eq_true_eq, Bool.or_eq_true] at ok
      obtain ⟨⟨⟨⟨⟨⟨⟨⟨o1, o2⟩, o3⟩, o4⟩, o5⟩, o6⟩, o7⟩, o8⟩, o9⟩ := ok
      obtain ⟨n1, n2⟩ := ck_sto cs o2
      obtain ⟨m1, m2⟩ := ck_sto cs o3
      have iha := sE a ea X W k cs.cg o7
      have ihb := sE b eb X W k cs.cg o8
      intro st g H σ env Dn bs sr ex h
      have hargs : wpE X ea σ H fun v H1 => wpE X eb σ H1 fun w H2 => Dn.nx ((σ.set i (some v)).set j (some w)) H2 :=
        iha st g H σ env _ sr ex.er (postS_bind h sr ex fun d s1 g1 H1 v _ sr1 x1 r1 ex1 h1 => ihb s1 g1 H1 σ env _ sr1 ex1.er (postS_bind h1 sr1 ex1 fun d2 s2 g2 H2 v2 _ sr2 x2 r2 ex2 h2 => h2 g2 H2 _ sr2 ((ex2.set (r1.mono sr1.live x2)).set r2)))
      rcases o9 with o9 | o9
      · have pl := o9
        unfold parS at pl
        simp only [Bool.and_eq_true, Bool.not_eq_true'] at pl
        exact wp_s (ps_par (cs.cg.calm o1) cs.cg.nd n1 m1 o4 (cs.cg.loc x pl.1.1.1.1.1) (cs.cg.loc y pl.1.1.1.1.2) (pa_cons pe_wp (pa_cons pe_wp pa_nil (star_of o6)) (star_of o5)) (par_swap cs.sc cs.kd o5 o6 o9) (noComp_sole rfl))
          (fun pins s I => thn (hargs pins s I) fun v s1 ⟨x1, H1, I1, r1, q1⟩ => ⟨x1, H1, I1, r1, fun pins s I => thn (q1 pins s I) fun v2 s2 ⟨x2, H2, I2, r2, q2⟩ => ⟨x2, H2, I2, r2, _, _, rfl, q2⟩⟩)
      · refine wp_s (ps_asg (pe_tup (pa_cons pe_wp (pa_cons pe_wp pa_nil (star_of o6)) (star_of o5))) (pg_tup (cs.cg.calm o1) (pgs_cons (pg_name cs.cg.nd n1 n2 (.inl (cs.fn _))) (pgs_cons (pg_name cs.cg.nd m1 m2 (.inl (cs.fn _))) pgs_nil)) rfl rfl) (noComp_sole rfl) (par_tup cs.sc o9) rfl) ?_
        refine iha st g H σ env _ sr ex.er (postS_bind h sr ex fun d s1 g1 H1 v _ sr1 x1 r1 ex1 h1 => ihb s1 g1 H1 σ env _ sr1 ex1.er (postS_bind h1 sr1 ex1 fun d2 s2 g2 H2 v2 _ sr2 x2 r2 ex2 h2 => ?_))
        refine ⟨by show 2 ≤ sizeLine; rw [sizeLine_eq]; decide, fun p hp => ⟨p, [v, v2], rfl, SqT.of upd_same, rfl, v, [v2], rfl, v2, [], rfl, rfl, ?_⟩⟩
        have x3 : Ext g2 H2 g2 (upd H2 p (.tup [v, v2])) := ext_new hp
        exact h2 g2 _ _ (sr2.new hp) (((ex2.later sr2.live x3).set ((r1.mono sr1.live x2).mono sr2.live x3)).set (r2.mono sr2.live x3))
  | .asg t e, sx, Φ, X, W, k, cs, ok => by
    cases sx <;> first | cases ok | skip
    rename_i tgs ex pos
    match tgs, ok with
    | [tg], ok =>
      simp only [okS, Bool.and_eq_true, Bool.not_eq_true'] at ok
      obtain ⟨⟨⟨⟨o1, o2⟩, o3⟩, o4⟩, o5⟩ := ok
      have ih := sE e ex X W k cs.cg o3
      intro st g H σ env Dn b sr exx h
      have h1 : (assignEach [tg] X.env).map (·.2) = [assign tg X.env] := by
        cases t <;> cases tg <;> first | rfl | cases o2
      refine wp_s (ps_asg pe_wp pg_wp (noComp_sole o4) (noTup_sw o5) h1) (ih st g H σ env _ sr exx.er (postS_bind h sr exx fun d s1 g1 H1 v _ sr1 x1 r1 ex1 h1 => ?_))
      split at h1
      · rename_i env' hb
        exact sTg t tg o2 cs o1 s1 g1 H1 σ env env' d v _ b sr1 ex1 r1 hb fun σ' ex' => h1 g1 H1 σ' sr1 ex'
      · exact h1.elim
  | .putL o i e, sx, Φ, X, W, k, cs, ok => by
    cases sx <;> first | cases ok | skip
    rename_i tgs ex pos
    match tgs, ok with
    | [.Subscript xo xi ps], ok =>
      simp only [okS, Bool.and_eq_true] at ok
      obtain ⟨⟨⟨⟨o1, o2⟩, o3⟩, o4⟩, o5⟩ := ok
      have iho := sE o xo X W k cs.cg o1
      have ihi := sE i xi X W k cs.cg o2
      have ihe := sE e ex X W k cs.cg o3
      intro st g H σ env Dn b sr exx h
      refine wp_s (ps_asg pe_wp (pg_sub pe_wp pe_wp set_list (by intro v; cases xi <;> first | rfl | cases o5)) (noComp_sole o4) (by cases ex <;> rfl) rfl) (ihe st g H σ env _ sr exx.er (postS_bind h sr exx fun d s1 g1 H1 v _ sr1 x1 r1 ex1 h1 =>
        iho s1 g1 H1 σ env _ sr1 ex1.er (postS_bind h1 sr1 ex1 fun dl s2 g2 H2 vl _ sr2 x2 r2 ex2 h2 => ihi s2 g2 H2 σ env _ sr2 ex2.er (postS_bind h2 sr2 ex2 fun dk s3 g3 H3 vk _ sr3 x3 r3 ex3 h3 => ?_))))
      cases dl with
      | obj n =>
        cases dk with
        | int kk =>
          dsimp only at h3
          cases hx : s3[n]? with
          | none => rw [hx] at h3; exact h3.elim
          | some ob =>
            rw [hx] at h3
            cases ob with
            | lst xs =>
              dsimp only at h3
              cases hj : ixN xs.length kk with
              | none => rw [hj] at h3; exact h3.elim
              | some j =>
                rw [hj] at h3
                have r2' := r2.mono sr2.live x3
                cases r2' with
                | obj hm =>
                  cases r3
                  obtain ⟨a, m', vs, q1, q2⟩ := sr3.at_ _ _ hx
                  rw [hm] at m'
                  cases m'
                  have hM := sr3.live _ _ hm
                  refine ⟨_, vs, kk, j, rfl, rfl, q1, by rw [← q2.length]; exact hj, ?_⟩
                  have rd := (r1.mono sr1.live x2).mono sr2.live x3
                  refine h3 g3 _ σ (sr3.store hm (List.getElem?_eq_some_iff.mp hx).1 ⟨vs.set j v, upd_same, (q2.wk (wk_wr hM)).set (rd.wk (wk_wr hM)) j⟩) ⟨ex3.er.wr hM (fun i' ys hi' z => ?_) (ex3.er.noSelfMu hm), ex3.ext.store hm, ex3.ob, b.stb _ _ _ _ (wk_wr hM) ex3.bb⟩
                  obtain ⟨a', vs', e1, _, _, _, e5⟩ := ex3.er.own i' ys hi'
                  rw [z] at e1
                  cases e1
                  exact e5 _ hm
            | _ => exact h3.elim
        | _ => exact h3.elim
      | _ => exact h3.elim
  | .ownNew i es, sx, Φ, X, W, k, cs, ok => by
    cases sx <;> first | cases ok | skip
    rename_i tgs ex pos
    match tgs, ex, ok with
    | [.Name x px], .List xs pl, ok =>
      simp only [okS, Bool.and_eq_true] at ok
      obtain ⟨n1, n2⟩ := ck_sto cs ok.1
      have ih := sEs es xs X W k cs.cg ok.2
      intro st g H σ env Dn b sr ex h
      refine wp_s (ps_set cs.cg.nd n1 n2 (pe_lst pa_wp) rfl (.inl (cs.fn _))) (ih st g H σ env _ sr ex.er (postS_bind h sr ex fun ds s1 g1 H1 vs _ sr1 x1 r1 ex1 h1 => ?_))
      split at h1
      · rename_i hz
        refine ⟨by rw [← r1.length]; exact hz, fun p hp => ?_⟩
        have x2 : Ext g1 H1 (g1.own p) (upd H1 p (.lst vs)) := ext_own sr1 hp
        have ex2 := ex1.later sr1.live x2
        refine h1 (g1.own p) _ _ (sr1.own hp) (ex2.own (i := i) upd_same (r1.mono sr1.live x2) (.inl rfl) (show ∀ j, g1.mu j ≠ some p from mu_of_none sr1 hp) ?_ fun j ys _ hj z => ?_)
        · cases e0 : b.H0 p with
          | none => rfl
          | some o =>
            obtain ⟨o', e1⟩ := ex1.ext.stay p o e0
            rw [hp] at e1
            cases e1
        · obtain ⟨a', vs', e1, e2, _⟩ := ex1.er.own j ys hj
          rw [z] at e1
          cases e1
          rw [hp] at e2
          cases e2
      · exact h1.elim
  | .ownApp i e, sx, Φ, X, W, k, cs, ok => by
    cases sx <;> first | cases ok | skip
    rename_i ex pos
    match ex, ok with
    | .Call (.Attribute (.Name x px) m ap) [y] [] cp, ok =>
      simp only [okS, Bool.and_eq_true, decide_eq_true_eq] at ok
      obtain ⟨⟨⟨⟨o1, rfl⟩, o3⟩, o4⟩, o5⟩ := ok
      obtain ⟨n1, n2, n3, n4⟩ := ck_vis cs.cg o1
      have ih := sE e y X W k cs.cg o3
      intro st g H σ env Dn b sr ex h
      have hfew : ((backTo cp (starEach [y] X.env)).all (fun x => !x.1) && (backToKw cp (keywordEach [] X.env)).all (fun x => x.1.isSome) && decide ([y].length + ([] : List Keyword).length + (if ([] : List Keyword).isEmpty then 0 else 1) < 30)) = true := by
        rw [star_of o4]; rfl
      by_cases ho : ∃ xs, env[i]? = some (Sl.own xs)
      · obtain ⟨xs, hx⟩ := ho
        obtain ⟨a, vs, q1, q2, q3, q4, q5⟩ := ex.er.own i xs hx
        refine wp_s (ps_expr (pe_bm PySem.F.plainAttrs_list PySem.F.slot_list_append PySem.F.type_list_append mt_append (pe_var n1 n2 n3 n4) (pa_cons pe_wp pa_nil (star_of o4)) rfl hfew o5 (star_of o4) rfl) rfl) ⟨_, q1, .inl ⟨rfl, vs, .inl (.inl q2)⟩, ?_⟩
        simp only [evS, hx] at h
        refine ih st g H σ env _ sr ex.er (postS_bind h sr ex fun d s1 g1 H1 v _ sr1 x1 r1 ex1 h1 => ?_)
        split at h1
        · rename_i hz
          obtain ⟨a', vs', p1, p2, p3, p4, p5⟩ := ex1.er.own i xs hx
          rw [q1] at p1
          cases p1
          obtain ⟨sr2, ex2⟩ := ex1.grow sr1 hx q1 p2 p3 p4 p5 r1
          exact ⟨a, vs', v, rfl, rfl, p2, by rw [← p3.length]; exact hz, h1 g1 _ σ sr2 ex2⟩
        · exact h1.elim
      · -- no list of its own: nothing is said
        exfalso
        simp only [evS] at h
        split at h
        · rename_i xs hx
          exact ho ⟨xs, hx⟩
        · exact h
  | .ownAdd i a b, sx, Φ, X, W, k, cs, ok => by
    cases sx <;> first | cases ok | skip
    rename_i tgs ex pos
    match tgs, ex, ok with
    | [.Name x px], .BinOp ea .Add eb pb, ok =>
      simp only [okS, Bool.and_eq_true] at ok
      obtain ⟨⟨o1, o2⟩, o3⟩ := ok
      obtain ⟨n1, n2⟩ := ck_sto cs o1
      have iha := snd_b cs.cg o2 (sE a ea X W k cs.cg o2)
      have ihb := snd_b cs.cg o3 (sE b eb X W k cs.cg o3)
      intro st g H σ env Dn bs sr ex h
      refine wp_s (ps_set cs.cg.nd n1 n2 (pe_op op_bin pe_wp pe_wp) rfl (.inl (cs.fn _))) (iha st g H σ env _ sr ex.er (postS_bind h sr ex fun d1 s1 g1 H1 v1 _ sr1 x1 r1 ex1 h1 => ihb s1 g1 H1 σ env _ sr1 ex1.er (postS_bind h1 sr1 ex1 fun d2 s2 g2 H2 v2 _ sr2 x2 r2 ex2 h2 => ?_)))
      have i1 := (r1.mono sr1.live x2).res sr2
      have i2 := r2.res sr2
      split at h2
      · rename_i xs ys e1 e2
        rw [e1] at i1
        rw [e2] at i2
        obtain ⟨a1, vs1, rfl, t1, q1⟩ := i1.ls
        obtain ⟨a2, vs2, rfl, t2, q2⟩ := i2.ls
        split at h2
        · rename_i hz
          refine rBin.of op_cat ⟨_, _, _, _, rfl, rfl, t1, t2, by rw [← q1.length, ← q2.length]; exact hz, fun p hp => ?_⟩
          obtain ⟨sr3, ex3⟩ := own_new (i := i) sr2 ex2 (q1.append q2) hp
          exact h2 _ _ _ sr3 ex3
        · exact h2.elim
      · exact h2.elim
  | .appL o e, sx, Φ, X, W, k, cs, ok => by
    cases sx <;> first | cases ok | skip
    rename_i ex pos
    match ex, ok with
    | .Call (.Attribute (.Name x px) m ap) [y] [] cp, ok =>
      simp only [okS, Bool.and_eq_true, decide_eq_true_eq] at ok
      obtain ⟨⟨⟨⟨o1, rfl⟩, o3⟩, o4⟩, o5⟩ := ok
      have iho := sE o (.Name x px) X W k cs.cg o1
      have ih := sE e y X W k cs.cg o3
      intro st g H σ env Dn b sr ex h
      have hfew : ((backTo cp (starEach [y] X.env)).all (fun x => !x.1) && (backToKw cp (keywordEach [] X.env)).all (fun x => x.1.isSome) && decide ([y].length + ([] : List Keyword).length + (if ([] : List Keyword).isEmpty then 0 else 1) < 30)) = true := by
        rw [star_of o4]; rfl
      refine wp_s (ps_expr (pe_bm PySem.F.plainAttrs_list PySem.F.slot_list_append PySem.F.type_list_append mt_append pe_wp (pa_cons pe_wp pa_nil (star_of o4)) rfl hfew o5 (star_of o4) rfl) rfl) (iho st g H σ env _ sr ex.er (postS_bind h sr ex fun dl s1 g1 H1 vl _ sr1 x1 r1 ex1 h1 => ?_))
      split at h1
      · split at h1
        · rename_i ys hx
          cases r1 with
          | obj hm =>
            obtain ⟨a, m', vs, q1, q2⟩ := sr1.at_ _ _ hx
            rw [hm] at m'
            cases m'
            refine ⟨.inl ⟨rfl, vs, .inl (.inl q1)⟩, ?_⟩
            refine ih s1 g1 H1 σ env _ sr1 ex1.er (postS_bind h1 sr1 ex1 fun d s2 g2 H2 v _ sr2 x2 r2 ex2 h2 => ?_)
            split at h2
            · rename_i xs hx2
              split at h2
              · rename_i hz
                have hm2 := x2.mu _ _ hm
                obtain ⟨a2, m', vs2, p1, p2⟩ := sr2.at_ _ _ hx2
                rw [hm2] at m'
                cases m'
                have hM := sr2.live _ _ hm2
                refine ⟨_, vs2, v, rfl, rfl, p1, by rw [← p2.length]; exact hz, ?_⟩
                refine h2 g2 _ σ (sr2.store hm2 (List.getElem?_eq_some_iff.mp hx2).1 ⟨vs2 ++ [v], upd_same, (p2.wk (wk_wr hM)).append (.cons (r2.wk (wk_wr hM)) .nil)⟩) ⟨ex2.er.wr hM (fun i' ys hi' z => ?_) (ex2.er.noSelfMu hm2), ex2.ext.store hm2, ex2.ob, b.stb _ _ _ _ (wk_wr hM) ex2.bb⟩
                obtain ⟨a', vs', e1, _, _, _, e5⟩ := ex2.er.own i' ys hi'
                rw [z] at e1
                cases e1
                exact e5 _ hm2
              · exact h2.elim
            · exact h2.elim
        · exact h1.elim
      · exact h1.elim
  | .freeze i, sx, Φ, X, W, k, cs, ok => by cases sx <;> cases ok
  | .setF i f e, sx, Φ, X, W, k, cs, ok => by
    cases sx <;> first | cases ok | skip
    rename_i tgs ex pos
    match tgs, ok with
    | [.Attribute (.Name x px) n pa], ok =>
      simp only [okS, Bool.and_eq_true, decide_eq_true_eq, Bool.not_eq_true'] at ok
      obtain ⟨⟨⟨⟨⟨o0, o1⟩, rfl⟩, o3⟩, o4⟩, o5⟩ := ok
      obtain ⟨h1, h2, h3, h4⟩ := ck_vis cs.cg o1
      have ih := sE e ex X W k cs.cg o4
      intro st g H σ env Dn b sr exx h
      refine wp_s (ps_fld (pe_var h1 h2 h3 h4) pe_wp (noComp_sw o5)) (ih st g H σ env _ sr exx.er (postS_bind h sr exx fun d s1 g1 H1 v _ sr1 x1 r1 ex1 hh => ?_))
      split at hh
      · rename_i c fs hx
        split at hh
        · rename_i hz
          obtain ⟨a, dx, fv, q1, q2, q3, q4, q5, q6⟩ := ex1.put sr1 hx o3 r1
          obtain ⟨c1, c2⟩ := cs.cg.cls c q3
          rw [← cs.cg.K] at c1 c2
          exact ⟨_, q1, a, _, dx, fv, rfl, q2, c1, c2 f o3, by omega, hh _ _ _ q5 q6⟩
        · exact hh.elim
      · exact hh.elim
  | .aug i op e, sx, Φ, X, W, k, cs, ok => by
    cases sx <;> first | cases ok | skip
    rename_i tg o ex pos
    cases tg <;> first | cases ok | skip
    rename_i x px
    simp only [okS, Bool.and_eq_true] at ok
    obtain ⟨⟨o1, o2⟩, o3⟩ := ok
    obtain ⟨n1, n2⟩ := ck_sto cs o1
    have e2 := opB_ok o2
    subst e2
    have ih := sE e ex X W k cs.cg o3
    intro st g H σ env Dn b sr exx h
    simp only [evS] at h
    split at h
    · rename_i dx hx
      obtain ⟨vx, q1, q2⟩ := exx.er.val i dx hx
      refine wp_s (ps_aug cs.cg.nd n1 n2 pe_wp rip_ok (.inl (cs.fn _))) ⟨vx, q1, ih st g H σ env _ sr exx.er (postS_bind h sr exx fun d s1 g1 H1 v _ sr1 x1 r1 ex1 h1 => ?_)⟩
      split at h1
      · rename_i z hz
        exact ip_of hz sr1 (q2.mono sr.live x1) r1 fun g' H' v' sr' x' rv => h1 g' H' _ sr' ((ex1.later sr1.live x').set rv)
      · exact h1.elim
    · exact h.elim
  | .ret e, sx, Φ, X, W, k, cs, ok => by
    cases sx <;> first | cases ok | skip
    rename_i o pos
    cases o <;> first | cases ok | skip
    rename_i x
    have ih := sE e x X W k cs.cg ok
    intro st g H σ env Dn b sr ex h
    exact wp_s (ps_ret pe_wp) (ih st g H σ env _ sr ex.er (postS_bind h sr ex fun d s1 g1 H1 v _ sr1 x1 r1 ex1 h1 => h1 g1 H1 v sr1 ex1.ext r1))
  | .retN, sx, Φ, X, W, k, cs, ok => by
    cases sx <;> first | cases ok | skip
    rename_i o pos
    cases o <;> first | cases ok | skip
    intro st g H σ env Dn b sr ex h
    exact wp_s ps_retN (h g H _ sr ex.ext .non)
  | .ite c a e, sx, Φ, X, W, k, cs, ok => by
    cases sx <;> first | cases ok | skip
    rename_i t x y pos
    simp only [okS, Bool.and_eq_true] at ok
    obtain ⟨⟨o1, o2⟩, o3⟩ := ok
    have iht := sT c t X W k cs.cg o1
    have iha := sSs a x Φ X W k cs o2
    have ihe := sSs e y Φ X W k cs o3
    intro st g H σ env Dn b sr ex h
    refine wp_s (ps_if pt_wp pss_wp pss_wp) (iht st g H σ env _ sr ex.er (postS_bind h sr ex fun d s1 g1 H1 v _ sr1 x1 r1 ex1 h1 => ?_))
    subst r1
    cases d with
    | true => exact iteT (iha s1 g1 H1 σ env Dn b sr1 ex1 (by simpa using h1))
    | false => exact iteF (ihe s1 g1 H1 σ env Dn b sr1 ex1 (by simpa using h1))
  | .whl c a, sx, Φ, X, W, k, cs, ok => by
    cases sx <;> first | cases ok | skip
    rename_i t x y pos
    cases y <;> first | cases ok | skip
    simp only [okS, Bool.and_eq_true] at ok
    have iht := sT c t X W k cs.cg ok.1
    have iha := sSs a x Φ X W k cs ok.2
    intro st g H σ env Dn b sr ex h
    refine wp_s (ps_while cs.cg.pw pt_wp pss_wp) ⟨fun m σ H => ∃ g env st, SR F st g H ∧ EX F b g H env σ ∧ PostS F b Dn W (whileS (fun env s => evT C Φ c env s) (fun env s => evSs C Φ a env s) m env st), ⟨wfuel, g, env, st, sr, ex, h⟩, ?_⟩
    rintro m σ1 H1 ⟨g1, env1, st1, sr1, ex1, h1⟩
    cases m with
    | zero => exact h1.elim
    | succ m =>
      simp only [whileS] at h1
      refine iht st1 g1 H1 σ1 env1 _ sr1 ex1.er (postS_bind h1 sr1 ex1 fun d s2 g2 H2 v _ sr2 x2 r2 ex2 h2 => ?_)
      subst r2
      cases d with
      | true =>
        refine iteT ⟨fun σ' H' => ∃ g env st, SR F st g H' ∧ EX F b g H' env σ' ∧ PostS F b Dn W (whileS (fun env s => evT C Φ c env s) (fun env s => evSs C Φ a env s) m env st), fun σ' H' z => ⟨m, Nat.lt_succ_self m, z⟩, ?_⟩
        refine iha s2 g2 H2 σ1 env1 _ b sr2 ex2 ?_
        simp only [if_true] at h2
        cases e : evSs C Φ a env1 s2 with
        | ok fl s =>
          rw [e] at h2
          cases fl with
          | nx env' => exact fun g' H' σ' sr' ex' => ⟨g', env', s, sr', ex', h2⟩
          | rt d => exact h2
          | bk env' => exact h2
          | ct env' => exact fun g' H' σ' sr' ex' => ⟨g', env', s, sr', ex', h2⟩
        | exc x e s => rw [e] at h2; exact h2
        | bad => rw [e] at h2; exact h2
      | false => exact iteF (by simpa using h2 g2 H2 σ1 sr2 ex2)
  | .brk, sx, Φ, X, W, k, cs, ok => by
    cases sx <;> first | cases ok | skip
    exact fun st g H σ env Dn b sr ex h => wp_s ps_break (h g H σ sr ex)
  | .cont, sx, Φ, X, W, k, cs, ok => by
    cases sx <;> first | cases ok | skip
    exact fun st g H σ env Dn b sr ex h => wp_s ps_continue (h g H σ sr ex)
  | .pass, sx, Φ, X, W, k, cs, ok => by
    cases sx <;> first | cases ok | skip
    exact fun st g H σ env Dn b sr ex h => wp_s ps_pass (h g H σ sr ex)
  | .for_ t it bd, sx, Φ, X, W, k, cs, ok => by
    cases sx <;> first | cases ok | skip
    rename_i tg x body orelse pos
    cases orelse <;> first | cases ok | skip
    simp only [okS, Bool.and_eq_true, Bool.not_eq_true'] at ok
    obtain ⟨⟨⟨⟨o1, o2⟩, o3⟩, o4⟩, o5⟩ := ok
    have ihit := sE it x X W k cs.cg o3
    have ihb := sSs bd body Φ X W k cs o4
    have hset : ∀ v, foldedSetIterable x X.env v = pure v := by
      intro v
      cases x <;> first | rfl | cases o5
    intro st g H σ env Dn b sr ex h
    simp only [evS] at h
    have turn : ∀ (d : D) (v : V) (st : S) (g : G) (H : Hp) (σ : L2.St) (env : DE) (Dn' : Ends) (b' : Bs), SR F st g H → EX F b' g H env σ → Rep F g H d v → PostS F b' Dn' W (match bindT t d env with | some env' => evSs C Φ bd env' st | none => .bad) → wpG X tg v σ H fun σ2 H2 => wpSs X body Dn' σ2 H2 := by
      intro d v st g H σ env Dn' b' sr ex rd h
      cases hb : bindT t d env with
      | none => rw [hb] at h; exact h.elim
      | some env' =>
        rw [hb] at h
        exact sTg t tg o2 cs o1 st g H σ env env' d v _ b' sr ex rd hb fun σ' ex' => ihb st g H σ' env' Dn' b' sr ex' h
    by_cases ht : ∃ ys s1, evE C Φ it env st = .ok (.tup ys) s1
    · obtain ⟨ys, s1', hr⟩ := ht
      refine wp_s (ps_for cs.cg.pw (cs.cg.calm o1) (pi_tup pe_wp) pg_wp pss_wp hset) (ihit st g H σ env _ sr ex.er (postS_bind h sr ex fun d s1 g1 H1 v hd sr1 x1 r1 ex1 h1 => ?_))
      rw [hr] at hd
      cases hd
      cases r1 with
      | tup tt r =>
        rename_i vs a
        obtain ⟨Pv, p0, pl, ps, pd⟩ := for_sound (X := X) (W := W) (tx := tg) (body := body) X.K (a := a) true (fun g H => TupAt F g H a vs ∧ Reps F g H ys vs) (fun g H g' H' x z => ⟨z.1.wk x, z.2.wk x⟩) ⟨tt, r⟩ (fun g H z => by rw [if_pos rfl, cs.cg.K]; exact z.1.sq) (fun g H z => z.2) turn sr1 ex1 h1
        exact ⟨a, rfl, ⟨vs, by rw [cs.cg.K]; exact tt.sq⟩, for_tup (K := X.K) Pv p0 (fun j σ' H' _ z => by simpa using pl j σ' H' z) ps pd⟩
    · refine wp_s (ps_for cs.cg.pw (cs.cg.calm o1) (pi_list pe_wp) pg_wp pss_wp hset) (ihit st g H σ env _ sr ex.er (postS_bind h sr ex fun d s1 g1 H1 v hd sr1 x1 r1 ex1 h1 => ?_))
      cases hx : itemsD [] d with
      | none => rw [hx] at h1; exact h1.elim
      | some xs =>
        rw [hx] at h1
        obtain ⟨a, vs, rfl, r, P, sp, hP, hq⟩ : ∃ a vs, v = .ref a ∧ Reps F g1 H1 xs vs ∧ ∃ P : G → Hp → Prop, (∀ g H g' H', Wk g H g' H' → P g H → P g' H') ∧ P g1 H1 ∧ ∀ g H, P g H → SqL X.K H a vs := by
          unfold itemsD at hx
          split at hx
          · exact absurd ⟨_, _, hd⟩ ht
          · cases hx
            cases r1 with
            | lst tt r => exact ⟨_, _, rfl, r, fun g H => LstAt F g H _ _, fun g H g' H' x z => z.wk x, tt, fun g H z => by rw [cs.cg.K]; exact z.sq⟩
          · cases hx
            cases r1 with
            | scr tt => exact ⟨_, _, rfl, reps_ints _, fun g H => ScrAt F g H _ _, fun g H g' H' x z => z.wk x, tt, fun g H z => by rw [cs.cg.K]; exact z.sq⟩
          · simp at hx
          · cases hx
        obtain ⟨Pv, p0, pl, ps, pd⟩ := for_sound (X := X) (W := W) (tx := tg) (body := body) X.K (a := a) false (fun g H => P g H ∧ Reps F g H xs vs) (fun g H g' H' x z => ⟨sp _ _ _ _ x z.1, z.2.wk x⟩) ⟨hP, r⟩ (fun g H z => by simpa using hq g H z.1) (fun g H z => z.2) turn sr1 ex1 h1
        exact ⟨a, rfl, ⟨vs, hq g1 H1 hP⟩, for_list (K := X.K) Pv p0 (fun j σ' H' _ z => by simpa using pl j σ' H' z) ps pd⟩
  | .forI t it bd, sx, Φ, X, W, k, cs, ok => by
    cases sx <;> first | cases ok | skip
    rename_i tg x body orelse pos
    cases orelse <;> first | cases ok | skip
    simp only [okS, Bool.and_eq_true, Bool.not_eq_true'] at ok
    obtain ⟨⟨⟨⟨o1, o2⟩, o3⟩, o4⟩, o5⟩ := ok
    have ihit := sI it x X W k cs.cg o3
    have ihb := sSs bd body Φ X W k cs o5
    intro st g H σ env Dn b sr ex h
    simp only [evS] at h
    obtain ⟨wi, w1, w2⟩ := ihit tg st g H σ env (fun J H1 => ∃ W' : Nat → Nat → L2.St → Hp → Prop, (∃ m, W' 0 m σ H1) ∧ ∀ i m σ H, W' i m σ H →
        (J.stop i H ∧ Dn.nx σ H) ∨ (J.go i H ∧ ∃ N : L2.St → Hp → Prop, (∀ σ' H', N σ' H' → ∃ m', m' < m ∧ W' (i + 1) m' σ' H') ∧ ∀ x H', J.yld i H x H' → wpG X tg x σ H' fun σ2 H2 => wpSs X body { Dn with nx := N, ct := N, bk := Dn.nx } σ2 H2)) o4 sr ex.er
      (postS_bind h sr ex fun xs s1 g1 H1 J _ sr1 x1 wk ex1 h1 => by
        obtain ⟨Gd, Y, P, walk, sp, p1, pG, yl⟩ := wk
        refine for_it walk (fun j σ' H' => ∃ g' env' st', SR F st' g' H' ∧ EX F (b.and P sp) g' H' env' σ' ∧ PostS F b Dn W (loopS (fun d env s => match bindT t d env with
          | some env' => evSs C Φ bd env' s
          | none => .bad) (xs.drop j) env' st')) ⟨g1, env, s1, sr1, ex1.more p1, h1⟩ ?_ ?_ ?_
        · rintro j σ' H' _ ⟨g', _, _, _, ex', _⟩
          exact pG g' H' ex'.bb.2
        · rintro j v σ' H' H2 hj ⟨g', env', st', sr', ex', h'⟩ y
          obtain ⟨sr2, x2, d, hd, rd⟩ := yl j st' g' H' v H2 hj ex'.bb.2 sr' y
          have ex2 := ex'.later sr'.live x2
          have hdrop : xs.drop j = d :: xs.drop (j + 1) := by
            obtain ⟨hl, e1⟩ := List.getElem?_eq_some_iff.mp hd
            rw [← e1]
            exact List.drop_eq_getElem_cons hl
          rw [hdrop] at h'
          have hm : PostS F (b.and P sp) Dn W (loopS _ (d :: xs.drop (j + 1)) env' st') := h'.more
          simp only [loopS] at hm h'
          cases hb : bindT t d env' with
          | none => rw [hb] at h'; exact h'.elim
          | some env2 =>
            rw [hb] at hm h'
            dsimp only at hm h'
            refine sTg t tg o2 cs o1 st' g' H2 σ' env' env2 d v _ (b.and P sp) sr2 ex2 rd hb fun σ2 ex3 => ihb st' g' H2 σ2 env2 _ (b.and P sp) sr2 ex3 ?_
            cases e : evSs C Φ bd env2 st' with
            | ok fl s =>
              rw [e] at hm h'
              cases fl with
              | nx env3 => exact fun g2 H2 σ2 sr2 ex2 => ⟨g2, env3, s, sr2, ex2, h'⟩
              | rt d => exact hm
              | bk env3 => exact hm
              | ct env3 => exact fun g2 H2 σ2 sr2 ex2 => ⟨g2, env3, s, sr2, ex2, h'⟩
            | exc x e s => rw [e] at hm; exact hm
            | bad => rw [e] at hm; exact hm
        · rintro σ' H' ⟨g', env', st', sr', ex', h'⟩
          rw [List.drop_length] at h'
          exact h' g' H' σ' sr' ex'.less)
    exact wp_s (ps_for cs.cg.pw (cs.cg.calm o1) w1 pg_wp pss_wp (okI_fold o3)) w2
  | .ownExt i e, sx, Φ, X, W, k, cs, ok => by
    cases sx <;> first | cases ok | skip
    rename_i ex pos
    match ex, ok with
    | .Call (.Attribute (.Name x px) m ap) [y] [] cp, ok =>
      simp only [okS, Bool.and_eq_true, decide_eq_true_eq] at ok
      obtain ⟨⟨⟨⟨o1, rfl⟩, o3⟩, o4⟩, o5⟩ := ok
      obtain ⟨n1, n2, n3, n4⟩ := ck_vis cs.cg o1
      have ih := sE e y X W k cs.cg o3
      intro st g H σ env Dn b sr ex h
      have hfew : ((backTo cp (starEach [y] X.env)).all (fun x => !x.1) && (backToKw cp (keywordEach [] X.env)).all (fun x => x.1.isSome) && decide ([y].length + ([] : List Keyword).length + (if ([] : List Keyword).isEmpty then 0 else 1) < 30)) = true := by
        rw [star_of o4]; rfl
      simp only [evS] at h
      split at h
      · rename_i xs hx
        obtain ⟨a, vs, q1, q2, q3, q4, q5⟩ := ex.er.own i xs hx
        refine wp_s (ps_expr (pe_bm PySem.F.plainAttrs_list PySem.F.slot_list_extend PySem.F.type_list_extend mt_extend (pe_var n1 n2 n3 n4) (pa_cons pe_wp pa_nil (star_of o4)) rfl hfew o5 (star_of o4) rfl) rfl) ⟨_, q1, .inl ⟨rfl, vs, .inl (.inl q2)⟩, ?_⟩
        refine ih st g H σ env _ sr ex.er (postS_bind h sr ex fun d s1 g1 H1 v _ sr1 x1 r1 ex1 h1 => ?_)
        split at h1
        · cases r1 with
          | @lst ys ws c tt rr =>
            split at h1
            · rename_i hz
              obtain ⟨a', vs', p1, p2, p3, p4, p5⟩ := ex1.er.own i xs hx
              rw [q1] at p1
              cases p1
              obtain ⟨sr2, ex2⟩ := ex1.growL sr1 hx q1 p2 p3 p4 p5 rr
              exact ⟨a, c, vs', ws, rfl, rfl, p2, tt.1, by rw [← p3.length, ← rr.length]; exact hz, h1 g1 _ σ sr2 ex2⟩
            · exact h1.elim
        · exact h1.elim
      · exact h.elim
  | .forR i n bd, sx, Φ, X, W, k, cs, ok => by
    cases sx <;> first | cases ok | skip
    rename_i tg x body orelse pos
    match tg, x, orelse, ok with
    | .Name xn px, .Call (.Name r pr) [y] [] pc, [], ok =>
      simp only [okS, Bool.and_eq_true, Bool.not_eq_true', decide_eq_true_eq] at ok
      obtain ⟨⟨⟨⟨⟨⟨o1, o2⟩, rfl⟩, o4⟩, o5⟩, o6⟩, o7⟩ := ok
      obtain ⟨n1, n2⟩ := ck_sto cs o2
      obtain ⟨g1', _, _⟩ := ck_gl cs.cg o4
      have ihn := sE n y X W k cs.cg o5
      have ihb := sSs bd body Φ X W k cs o7
      intro st g H σ env Dn b sr ex h
      simp only [evS] at h
      refine wp_s (ps_for cs.cg.pw (cs.cg.calm o1) (pi_range1 g1' (cs.cg.bf _ (by decide)) (pa_cons pe_wp pa_nil (star_of o6)) (star_of o6)) (pg_name cs.cg.nd n1 n2 (.inl (cs.fn _))) pss_wp) (ihn st g H σ env _ sr ex.er (postS_bind h sr ex fun d s1 g1 H1 v _ sr1 x1 r1 ex1 h1 => ?_))
      cases d with
      | int kk =>
        cases r1
        dsimp only at h1
        split at h1
        · rename_i hz
          refine ⟨kk, rfl, hz.1, hz.2, ?_⟩
          refine for_range (lo := 0) (n := kk.toNat) (fun j σ' H' => ∃ g' env' st', SR F st' g' H' ∧ EX F b g' H' env' σ' ∧ PostS F b Dn W (loopS (fun d env s => evSs C Φ bd (env.set i (.val d)) s) (((List.range kk.toNat).map fun (n : Nat) => D.int (n : Int)).drop j) env' st')) ⟨g1, env, s1, sr1, ex1, h1⟩ ?_ ?_
          · rintro j σ' H' hj ⟨g', env', st', sr', ex', h'⟩
            have hdrop : ((List.range kk.toNat).map fun (n : Nat) => D.int (n : Int)).drop j = D.int (j : Int) :: ((List.range kk.toNat).map fun (n : Nat) => D.int (n : Int)).drop (j + 1) := by
              rw [List.drop_eq_getElem_cons (by simpa using hj)]
              simp
            rw [hdrop] at h'
            have e0 : (0 : Int) + (j : Int) = (j : Int) := Int.zero_add _
            rw [e0]
            refine ihb st' g' H' _ (env'.set i (.val (.int j))) _ b sr' (ex'.set (.int _)) ?_
            exact post_turn h' fun env2 s2 g2 H2 σ2 sr2 ex2 h2 => ⟨g2, env2, s2, sr2, ex2, h2⟩
          · rintro σ' H' ⟨g', env', st', sr', ex', h'⟩
            rw [List.drop_eq_nil_of_le (by simp)] at h'
            exact h' g' H' σ' sr' ex'
        · exact h1.elim
      | _ => exact h1.elim
  | .raise c (.cons e es), sx, Φ, X, W, k, cs, ok => by
    intro st g H σ env Dn b sr ex h
    exact h.elim
  | .raise c .nil, sx, Φ, X, W, k, cs, ok => by
    cases sx <;> first | cases ok | skip
    rename_i e1 e2 pos
    match e1, e2, ok with
    | some (.Call (.Name x px) [] [] pc), none, ok =>
      simp only [okS, Bool.and_eq_true, Bool.not_eq_true', decide_eq_true_eq] at ok
      obtain ⟨⟨⟨o1, rfl⟩, o3⟩, _⟩ := ok
      obtain ⟨g1', g2', _⟩ := ck_gl cs.cg o3
      intro st g H σ env Dn b sr ex h
      simp only [evS] at h
      split at h
      · rename_i hx
        obtain ⟨B, newId, initId, bmB, EF, q, gC, kC, r1, r2⟩ := cs.cg.xcs c hx
        exact wp_s (ps_raise (cs.cg.calm o1) cs.cg.tk (pmk_none EF (by rw [cs.cg.K]; exact q) gC (by rw [cs.cg.K]; exact kC) (raises_own (by rw [cs.cg.K]; exact r1) (by rw [cs.cg.K]; exact r2)) g1' g2')) (h g H σ _ none sr ex ⟨rfl, .inl ⟨rfl, rfl⟩⟩)
      · exact h.elim
    | some (.Call (.Name x px) (a :: r) [] pc), none, ok => simp [okS] at ok
  | .tryx bd c i su, sx, Φ, X, W, k, cs, ok => by
    cases sx <;> first | cases ok | skip
    rename_i body hs orelse fin pos
    match hs, orelse, fin, ok with
    | [.ExceptHandler (some (.Name x px)) none (s0 :: suite) ph], [], [], ok =>
      simp only [okS, Bool.and_eq_true, Bool.not_eq_true', decide_eq_true_eq] at ok
      obtain ⟨⟨⟨⟨o1, rfl⟩, o3⟩, o4⟩, o5⟩ := ok
      obtain ⟨g1', g2', g3'⟩ := ck_gl cs.cg o3
      intro st g H σ env Dn b sr ex h
      simp only [evS] at h
      cases hcc : C.sub c c with
      | none => rw [hcc] at h; exact h.elim
      | some b0 =>
        rw [hcc] at h
        dsimp only at h
        have hc := (cs.cg.sub c c b0 hcc).1
        refine wp_s (ps_try_only (c := .ref (F.ca c)) (tb := fun W' Dn σ H => ∀ pn xe, Takes (X.tr pn xe) W' → PassesOwn (model X.prog X.w) X.A X.env xe → wpSs (X.tr pn xe) body Dn σ H)
          (ts := fun a cls d Dn σ H => ∀ oe pn, Zc cls d oe → (∃ vs, oe.data = .fields vs) → wpSs (X.suite a ((a, oe) :: pn)) (s0 :: suite) Dn σ H) cs.hs cs.hf ⟨g1', g2', .inl hc⟩ cs.cg.tk
          (fun W' pn xe tk pw => ⟨fun pins s σ H Dn I q => q pn xe tk pw pins s I⟩) (fun a oe cls d pn hz hf => ⟨fun pins s σ H Dn I q => q oe pn hz hf pins s I⟩)) ?_
        intro pn xe tk pw
        refine sSs bd body Φ (X.tr pn xe) _ k (cs.tr tk pw) o4 st g H σ env Dn b sr ex ?_
        cases e : evSs C Φ bd env st with
        | ok f s => rw [e] at h; cases f <;> exact h
        | bad => rw [e] at h; exact h
        | exc xd env' s' =>
          rw [e] at h
          dsimp only at h
          intro g' H' σ' cls dd sr' ex' xr
          cases hsub : C.sub xd.cls c with
          | none => rw [hsub] at h; exact h.elim
          | some bb =>
            rw [hsub] at h
            obtain ⟨_, hex⟩ := cs.cg.sub _ _ _ hsub
            refine ⟨bb, by rw [cs.cg.K, xr.1]; exact hex, fun hb a ha oe pn hz hf => ?_, fun hb => ?_⟩
            · subst hb
              exact sSs su (s0 :: suite) _ (X.suite a ((a, oe) :: pn)) _ _ cs.suite o5 s' g' H' σ' env' Dn b sr' ex' (PostS.nox h)
            · subst hb
              exact h g' H' σ' cls dd sr' ex' xr
theorem sSs : ∀ (s : Ss) (sx : List Stmt) (Φ : Fe) (X : Cx) (W : WX) (k : Ck), CS F C Φ lv X W k → okSs k s sx = true → SndSs F C Φ X W s sx
  | .nil, sx, Φ, X, W, k, cs, ok => by
    cases sx with
    | nil => exact fun st g H σ env Dn b sr ex h => wp_ss pss_nil (h g H σ sr ex)
    | cons => cases ok
  | .cons s r, sx, Φ, X, W, k, cs, ok => by
    by_cases hf : ∃ i, s = .freeze i
    · obtain ⟨i, rfl⟩ := hf
      have ih := sSs r sx Φ X W k cs (by cases sx <;> exact ok)
      intro st g H σ env Dn b sr ex h
      simp only [evSs, evS] at h
      split at h
      · rename_i xs hx
        obtain ⟨g', sr', ex'⟩ := ex.frz sr hx
        exact ih st g' H σ _ Dn b sr' ex' h
      · exact h.elim
    · cases sx with
      | nil => cases s <;> first | cases ok | exact absurd ⟨_, rfl⟩ hf
      | cons x xs =>
        have ok' : okS k s x = true ∧ okSs k r xs = true := by
          cases s <;> first | (simpa only [okSs, Bool.and_eq_true] using ok) | exact absurd ⟨_, rfl⟩ hf
        have ih1 := sS s x Φ X W k cs ok'.1
        have ih2 := sSs r xs Φ X W k cs ok'.2
        intro st g H σ env Dn b sr ex h
        simp only [evSs] at h
        exact wp_ss (pss_cons ps_wp pss_wp) (ih1 st g H σ env _ b sr ex (postS_seq h fun env' s' g' H' σ' _ sr' ex' h' => ih2 s' g' H' σ' env' Dn b sr' ex' h'))
end
end
end PV

set_option Elab.async false
set_option linter.all false
set_option maxRecDepth 100000
set_option maxHeartbeats 2000000
set_option exponentiation.threshold 30000
namespace PV
open PySem PySem.Spec PyProof.Rows L2
/-- a def's call, where no repr runs around it -/
theorem call_def {P : Program} {w : World} {K : PySem.W.Frag} {mg : Str → Option Value} {base : Heap} {kk : Nat} {f : Addr} {name qual : Str} {params : Arguments} {body : List Stmt} {scope : Scope} {dV kV doc pm cdv ct oc : Value} {an od : Option Addr}
    {osl : Array (Option Value)} {N ps : List Str} {A : Around} {outer : List PySem.Env} {s : Shared} {H : Hp} {args : Args} {us : List Value} {vs : List V} {Q : VK} {E : XK}
    (lk : K.lookup f = some ⟨oc, od, .func (PySem.W.fnOf name qual params body scope dV kV doc pm an cdv ct), osl⟩)
    (hcd : PySem.W.codeIn K cdv qual = true) (sc : FnScope N ps scope) (hl : vs.length = ps.length) (hr : Room (kk + 1) A) (e0 : Env0 P w K mg base A outer s H)
    (hb : BindsTo s (PySem.W.fnOf name qual params body scope dV kV doc pm an cdv ct) args (ps.zip us)) (rv : Vals vs us)
    (hbody : wpSs (cxOf (L2.CX P w) P w K mg base N qual scope f cdv A outer s H E) body { nx := fun _ H' => Q .non H', rt := Q } (start N vs) H) :
    codeAny (model P w) A (.call (.ref f) args) (CR (L2.CX P w) outer P w H s Q E) s := by
  have up : ∀ b o, base.get? b = some o → s.heap.get? b = some o := fun b o e => (e0.bs b o e).1
  have kx : K.In s.heap := e0.mod.kin.keeps up
  have kinds : ∀ y ∈ ps.zip us, scope.names.lookup y.1 = some .local ∨
      (scope.names.lookup y.1 = some .cell ∧ ((cellsFrom (s.heap.objs.size + 1) scope.names []).lookup y.1).isSome = true) := by
    rintro ⟨n, v⟩ hy
    rcases sc.par n (List.of_mem_zip hy).1 with z | z
    · left; exact z
    · right; exact ⟨z, PySem.W.cellsFrom_some _ _ _ (.inl z)⟩
  apply codeAny_call_function hr.depth (kx _ _ lk) rfl sc.co sc.gen rfl (PySem.W.codeRec_of kx hcd)
  apply hb
  apply wpAny_newFunctionEnv_cells sc.kind kinds
  intro env he s1 x1
  subst he
  refine ⟨(e0.mod.nolimit.keeps up).keeps x1.toInCall.keep, codeAny_func ?_⟩
  have inv := inv_start (CX := L2.CX P w) (E := E) sc hr.hd e0 hl rv x1
  refine wpAny_mono (hbody [] s1 inv) ?_ fun e s' z => z
  intro fl s' z
  cases fl with
  | ret u =>
    obtain ⟨v, σ', H', J, ru, q⟩ := z
    exact ⟨v, H', J.os, J.bare, J.base, J.hok, ru, q⟩
  | next =>
    obtain ⟨σ', H', J, q⟩ := z
    exact ⟨.non, H', J.os, J.bare, J.base, J.hok, rfl, q⟩
  | brk =>
    obtain ⟨_, _, _, q⟩ := z
    exact q.elim
  | cont =>
    obtain ⟨_, _, _, q⟩ := z
    exact q.elim

/-- what the module's facts must say, for all defs -/
structure Md (F : Fx) (C : Cn) (mg : Str → Option Value) (w : World) : Prop where
  wv : w = F.w
  con : ∀ x d, C.con x = some d → ∃ u v, mg (Str.ofString x) = some u ∧ RelV v u ∧ ∀ g H, Rep F g H d v
  bf : ∀ x ∈ bNames, mg x = none
  xcs : ∀ c, C.xn c = true → ∃ B newId initId bmB, ExcBaseFacts B newId initId bmB ∧ PySem.W.excIn F.K (F.ca c) bmB newId = true ∧ mg (Str.ofString c) = some (.ref (F.ca c)) ∧ PySem.W.keepIn F.K (.ref (F.ca c)) = true ∧ PySem.W.subIn F.K (.ref (F.ca c)) (.type "BaseException") = some true ∧ PySem.W.typeIn F.K (.ref (F.ca c)) = some (.type "type")
  sub : ∀ a c b, C.sub a c = some b → mg (Str.ofString c) = some (.ref (F.ca c)) ∧ PySem.W.exmOne F.K (.ref (F.ca a)) (.ref (F.ca c)) = some b
  cls : ∀ c, F.cl c → Cls F.K (F.ca c) ∧ ∀ f, isFld f = true → NoAttr F.K (F.ca c) (Str.ofString f)
theorem Room.deeper1 {k : Nat} {A : Around} (r : Room (k + 1) A) (env : Env) : Room k (A.deeper env).in1 :=
  ⟨r.hd, by have := r.dp; show A.depth + 1 + 3 * k + 5 < _; omega, by have := r.un; show A.units + 3 + 1 + 16 * k + 200 < _; omega⟩
/-- a def's text -/
structure DefC (fs : List String) (d : Df) (N ps : List Str) (body : List Stmt) (scope : Scope) : Prop where
  sc : FnScope N ps scope
  ok : okSs ⟨N, scope, false, fs⟩ d.body body = true
  n : N.length = d.n
  np : ps.length = d.np
/-- a def of the table stands at an address; A: how the address is found -/
structure DefAt (F : Fx) (A : Addr → Prop) (fs : List String) (x : Str) (d : Df) (N ps : List Str) (params : Arguments) (body : List Stmt) (scope : Scope) : Prop where
  fd : ∃ fa fd qual dvs kws, A fa ∧ FunD F.K x qual params body scope dvs kws fa fd ∧ (∀ g H, Reps F g H d.dfl dvs) ∧
    ∀ j, j ≤ dvs.length → ∃ ds, Vals (dvs.drop j) ds ∧ Binds F.K fd ps ds
  sc : FnScope N ps scope
  ok : okSs ⟨N, scope, false, fs⟩ d.body body = true
  n : N.length = d.n
  np : ps.length = d.np
  va : d.va = false
theorem DefAt.core {F : Fx} {A : Addr → Prop} {fs : List String} {x : Str} {d : Df} {N ps : List Str} {params : Arguments} {body : List Stmt} {scope : Scope} (h : DefAt F A fs x d N ps params body scope) : DefC fs d N ps body scope := ⟨h.sc, h.ok, h.n, h.np⟩
/-- a def of the module -/
abbrev DefOk (F : Fx) (mg : Str → Option Value) (fs : List String) (f : String) := DefAt F (fun fa => mg (Str.ofString f) = some (.ref fa)) fs (Str.ofString f)
/-- a method or a property's getter -/
abbrev MethOk (F : Fx) (fs : List String) (c m : String) := DefAt F (fun fa => if isPrp m = true then ∃ p, PropOf F.K (F.ca c) (Str.ofString m) p fa else Meth F.K (F.ca c) (Str.ofString m) fa) fs (Str.ofString m)
/-- a class's __init__ -/
abbrev CtorOk (F : Fx) (mg : Str → Option Value) (fs : List String) (c : String) := DefAt F (fun fa => mg (Str.ofString c) = some (.ref (F.ca c)) ∧ Mk F.K (F.ca c) fa ∧ F.cl c) fs "__init__"
/-- .. with a star parameter -/
structure DefVa (F : Fx) (mg : Str → Option Value) (fs : List String) (f : String) (d : Df) (N ps : List Str) (params : Arguments) (body : List Stmt) (scope : Scope) : Prop where
  fd : ∃ fa fd qual kws, mg (Str.ofString f) = some (.ref fa) ∧ FunD F.K (Str.ofString f) qual params body scope [] kws fa fd ∧
    ∃ pv ps0, ps = ps0 ++ [pv] ∧ ∀ us rest : List Value, us.length = ps0.length → bindArgs fd ⟨us ++ rest, []⟩ = (newTuple rest >>= fun t => pure (ps0.zip us ++ [(pv, t)]))
  core : DefC fs d N ps body scope
  va : d.va = true
theorem er_plain {F : Fx} {g : G} {H : Hp} {env : DE} {σ : L2.St} (len : env.length = σ.length) (pl : ∀ (i : Nat) (s : Sl), env[i]? = some s → s = .no ∨ ∃ d v, s = .val d ∧ σ[i]? = some (some v) ∧ Rep F g H d v) : ER F g H env σ := by
  refine ⟨len, fun i d h => ?_, fun i xs h => ?_, fun i j xs ys h => ?_, fun i kvs h => ?_, fun i c fs h => ?_⟩
  · rcases pl i _ h with z | ⟨d', v, z, h1, h2⟩
    · cases z
    · cases z; exact ⟨v, h1, h2⟩
  all_goals
    rcases pl i _ h with z | ⟨d', v, z, h1, h2⟩ <;> cases z
theorem start_slots {F : Fx} {g : G} {H : Hp} {ds : List D} {vs : List V} (r : Reps F g H ds vs) (m : Nat) (i : Nat) (s : Sl) (h : (ds.map Sl.val ++ List.replicate m Sl.no)[i]? = some s) : s = .no ∨ ∃ d v, s = .val d ∧ (vs.map some ++ List.replicate m none)[i]? = some (some v) ∧ Rep F g H d v := by
  have hlen := r.length
  by_cases hi : i < ds.length
  · rw [List.getElem?_append_left (by simpa using hi), List.getElem?_map] at h
    cases e : ds[i]? with
    | none => rw [e] at h; cases h
    | some d =>
      rw [e] at h; cases h
      obtain ⟨v, h3, h4⟩ := r.get e
      refine .inr ⟨d, v, rfl, ?_, h4⟩
      have hi : i < vs.length := (List.getElem?_eq_some_iff.mp h3).1
      rw [List.getElem?_append_left (by simpa using hi), List.getElem?_map, h3]
      rfl
  · rw [List.getElem?_append_right (by simpa using hi)] at h
    obtain ⟨h1, h2⟩ := List.getElem?_eq_some_iff.mp h
    simp at h2
    exact .inl h2.symm
theorem er_start {F : Fx} {g : G} {H : Hp} {ds : List D} {vs : List V} (r : Reps F g H ds vs) (m : Nat) : ER F g H (ds.map .val ++ List.replicate m .no) (vs.map some ++ List.replicate m none) :=
  er_plain (by simp [r.length]) (start_slots r m)
section
variable {F : Fx} {C : Cn} {P : Program} {w : World} {mg : Str → Option Value} {base : Heap} {t : Tbl} {fs : List String}
/-- a place where a def's body stands -/
theorem body_cs {n lv : Nat} {d : Df} {N ps : List Str} {body : List Stmt} {scope : Scope} (M : Md F C mg w) (ih : ∀ f, fs.contains f = true → FnS F P w mg base (callN C t n) lv f) (ihm : ∀ c m q, C.mky c m = some q → FnM F P w mg base (callN C t n) lv c m q) (Dk : DefC fs d N ps body scope)
    {A : Around} {outer : List Env} {s : Shared} {H : Hp} {E : XK} {cdv : Value} {fa : Addr} {qual : Str} (hr : Room (lv + 1) A) (hgd : A.guards = some []) :
    CS F C (callN C t n) lv (cxOf (L2.CX P w) P w F.K mg base N qual scope fa cdv A outer s H E) (fun cls dd _ H => E cls dd H) ⟨N, scope, false, fs⟩ := {
    cg := {
      K := rfl
      wv := M.wv
      N := rfl
      vis := fun x hx => by
        show Vis scope x
        unfold Vis
        dsimp only at hx
        cases e : scope.names.lookup x with
        | none => rw [e] at hx; cases hx
        | some kd => rw [e] at hx; cases kd <;> first | exact .inl rfl | exact .inr (.inl rfl) | exact .inr (.inr rfl) | cases hx
      loc := fun x hx => by
        show scope.names.lookup x = _
        dsimp only at hx
        cases e : scope.names.lookup x with
        | none => rw [e] at hx; cases hx
        | some kd => rw [e] at hx; cases kd <;> first | rfl | cases hx
      gl := fun x hx => by
        show scope.names.lookup x = _
        dsimp only at hx
        cases e : scope.names.lookup x with
        | none => rw [e] at hx; cases hx
        | some kd => rw [e] at hx; cases kd <;> first | rfl | cases hx
      blk := fun sc own hb => blkOk_by hb
      tk := takes_of rfl rfl rfl rfl
      pw := passes_of rfl
      nd := Dk.sc.nd
      calm := fun _ => rfl
      un := by
        have := (hr.deeper (envOfC qual scope s.heap.objs.size fa cdv)).un
        show (A.deeper (envOfC qual scope s.heap.objs.size fa cdv)).units + 100 < cLine
        omega
      gd := hgd
      con := M.con
      bf := M.bf
      xcs := M.xcs
      sub := M.sub
      ro := fun _ => ⟨hr.deeper _, Room.deeper1 hr _⟩
      cls := M.cls
      mts := fun _ => ihm
      fns := fun _ f hf => ih f hf }
    sc := rfl
    fn := fun _ => rfl
    kd := Dk.sc.kind
    hs := rfl
    hf := rfl }
theorem body_ok {n lv : Nat} {d : Df} {N ps : List Str} {body : List Stmt} {scope : Scope} (M : Md F C mg w) (ih : ∀ f, fs.contains f = true → FnS F P w mg base (callN C t n) lv f) (ihm : ∀ c m q, C.mky c m = some q → FnM F P w mg base (callN C t n) lv c m q) (Dk : DefC fs d N ps body scope)
    {A : Around} {outer : List Env} {s : Shared} {H : Hp} {vs : List V} {ds : List D} {st : S} {g : G} {Q : VK} {E : XK} {cdv : Value} {fa : Addr} {qual : Str} (hr : Room (lv + 1) A) (hgd : A.guards = some []) (sr : SR F st g H) (rep : Reps F g H ds vs)
    (hl2 : ds.length = d.np) (h : Post F (Rep F) g H Q E (runB C (callN C t n) d ds st)) :
    wpSs (cxOf (L2.CX P w) P w F.K mg base N qual scope fa cdv A outer s H E) body { nx := fun _ H' => Q .non H', rt := Q } (start N vs) H := by
  unfold runB at h
  rw [if_pos hl2] at h
  have hl1 : vs.length = ps.length := by rw [← rep.length, hl2, Dk.np]
  have cs := body_cs (P := P) (base := base) (outer := outer) (s := s) (H := H) (E := E) (cdv := cdv) (fa := fa) (qual := qual) M ih ihm Dk hr hgd
  have hstart : start N vs = vs.map some ++ List.replicate (d.n - d.np) none := by
    unfold L2.start
    rw [hl1, Dk.n, Dk.np]
  rw [hstart]
  refine sSs d.body body _ _ _ _ cs Dk.ok st g H _ (ds.map .val ++ List.replicate (d.n - d.np) .no) _ ⟨g, H, fun _ _ => True, fun _ _ _ _ _ _ => trivial, sr.mh⟩ sr ⟨er_start rep _, Ext.refl, fun i xs a hx hmn _ => ?_, trivial⟩ ?_
  · rcases start_slots rep _ i xs hx with z | ⟨d', v, z, _⟩ <;> (subst z; cases hmn)
  · cases e : evSs C (callN C t n) d.body (ds.map .val ++ List.replicate (d.n - d.np) .no) st with
    | ok fl s =>
      rw [e] at h
      cases fl with
      | nx env => exact fun g' H' σ' sr' ex' => h g' H' .non sr' ex'.ext .non
      | rt v => exact h
      | bk env => exact h.elim
      | ct env => exact h.elim
    | exc x env s => rw [e] at h; exact fun g' H' σ' cls dd sr' ex' xr => h g' H' cls dd sr' ex'.ext xr
    | bad => rw [e] at h; exact h.elim
theorem wk_sx {g : G} {H : Hp} {x : Addr} : Wk g H ⟨g.mu, g.M, x⟩ H := ⟨fun _ _ h n => ⟨h, n⟩, fun _ _ h => h⟩
/-- __init__, where self is being made at x -/
theorem init_ok {n lv : Nat} {c : String} {d : Df} {N ps : List Str} {body : List Stmt} {scope : Scope} (M : Md F C mg w) (ih : ∀ f, fs.contains f = true → FnS F P w mg base (callN C t n) lv f) (ihm : ∀ c m q, C.mky c m = some q → FnM F P w mg base (callN C t n) lv c m q) (Dk : DefC fs d N ps body scope)
    {A : Around} {outer : List Env} {s : Shared} {H : Hp} {vs : List V} {ds : List D} {st : S} {g : G} {Q : VK} {E : XK} {cdv : Value} {fa : Addr} {qual : Str} (hr : Room (lv + 1) A) (hgd : A.guards = some []) (sr : SR F st g H) (rep : Reps F g H ds vs)
    (hl2 : ds.length + 1 = d.np) (hc : F.cl c) (h : Post F (Rep F) g H Q E (runI C (callN C t n) c d ds st)) {x dx : Addr} (hx : H x = none) (hdx : H dx = none) (hne : dx ≠ x) :
    wpSs (cxOf (L2.CX P w) P w F.K mg base N qual scope fa cdv A outer s (upd (upd H dx (.own x)) x (.ins (F.ca c) dx [])) E) body { nx := fun _ H' => V.non = V.non ∧ Q (.ref x) H', rt := fun v H' => v = V.non ∧ Q (.ref x) H' } (start N (.ref x :: vs)) (upd (upd H dx (.own x)) x (.ins (F.ca c) dx [])) := by
  unfold runI at h
  rw [if_pos hl2] at h
  have hl1 : vs.length + 1 = ps.length := by rw [← rep.length, hl2, Dk.np]
  have cs := body_cs (P := P) (base := base) (outer := outer) (s := s) (H := upd (upd H dx (.own x)) x (.ins (F.ca c) dx [])) (E := E) (cdv := cdv) (fa := fa) (qual := qual) M ih ihm Dk hr hgd
  have hstart : start N (.ref x :: vs) = some (.ref x) :: (vs.map some ++ List.replicate (d.n - d.np) none) := by
    unfold L2.start
    rw [List.length_cons, hl1, Dk.n, Dk.np]
    rfl
  rw [hstart]
  have hx1 : upd H dx (.own x) x = none := by rw [upd_ne (Ne.symm hne)]; exact hx
  let g0 : G := ⟨g.mu, g.M, x⟩
  have sr0 : SR F st g0 H := ⟨fun i o q => by
      obtain ⟨a, e, r⟩ := sr.at_ i o q
      exact ⟨a, e, r.wk wk_sx fun _ q => q⟩, sr.inj, sr.dom, sr.live, sr.mh⟩
  have sr1 : SR F st g0 (upd H dx (.own x)) := sr0.new hdx
  have sr2 : SR F st (g0.own x) (upd (upd H dx (.own x)) x (.ins (F.ca c) dx [])) := sr1.own hx1
  have x1 : Ext g0 H g0 (upd H dx (.own x)) := ext_new hdx
  have x2 : Ext g0 (upd H dx (.own x)) (g0.own x) (upd (upd H dx (.own x)) x (.ins (F.ca c) dx [])) := ext_own sr1 hx1
  have x12 := x1.trans x2
  have rep0 : Reps F g0 H ds vs := rep.wk wk_sx
  have rep2 := rep0.mono sr0.live x12
  have er0 : ER F (g0.own x) (upd (upd H dx (.own x)) x (.ins (F.ca c) dx [])) (Sl.no :: (ds.map .val ++ List.replicate (d.n - d.np) .no)) (some (.ref x) :: (vs.map some ++ List.replicate (d.n - d.np) none)) := er_plain (by simp [rep.length]) fun i s hs => by
    cases i with
    | zero => cases hs; exact .inl rfl
    | succ i => exact start_slots rep2 _ i s hs
  have er1 := er_self (c := c) (fs := []) (fv := []) (dx := dx) er0 (Nat.zero_lt_succ _) (show _ = some (some (V.ref (g0.own x).sx)) from rfl) hc (fun p hp => absurd hp (by simp)) upd_same .nil (.inl rfl) fun j e => by
    have := sr.live j x e
    obtain ⟨o, q⟩ := sr.mh x this
    rw [hx] at q
    cases q
  refine sSs d.body body _ _ _ _ cs Dk.ok st (g0.own x) _ _ (Sl.self c [] :: (ds.map Sl.val ++ List.replicate (d.n - d.np) Sl.no)) _ ⟨g0, H, fun _ _ => True, fun _ _ _ _ _ _ => trivial, sr.mh⟩ sr2 ⟨er1, x12, fun i s a hs hmn hv => ?_, trivial⟩ ?_
  · cases i with
    | zero => cases hv; exact hx
    | succ i => rcases start_slots rep2 _ i s hs with z | ⟨d', v, z, _⟩ <;> (subst z; cases hmn)
  · have back : ∀ {g' : G} {H' : Hp}, Ext g0 H g' H' → Ext g H ⟨g'.mu, g'.M, g.sx⟩ H' := fun y => ⟨y.keep, y.mu, y.nw, y.fz, y.gh, y.stay, rfl⟩
    have srb : ∀ {s' : S} {g' : G} {H' : Hp}, SR F s' g' H' → SR F s' ⟨g'.mu, g'.M, g.sx⟩ H' := fun {s' g' H'} y => ⟨fun i o q => by
      obtain ⟨a, e, r⟩ := y.at_ i o q
      exact ⟨a, e, r.wk wk_sx fun _ q => q⟩, y.inj, y.dom, y.live, y.mh⟩
    have nx0 : ¬ g0.M x := sr0.notM hx
    cases e : evSs C (callN C t n) d.body (Sl.self c [] :: (ds.map .val ++ List.replicate (d.n - d.np) .no)) st with
    | ok fl s =>
      rw [e] at h
      cases fl with
      | nx env =>
        intro g' H' σ' sr' ex'
        dsimp only at h
        cases e0 : env[0]? with
        | none => rw [e0] at h; exact h.elim
        | some sl =>
          rw [e0] at h
          cases sl with
          | self c' fs' =>
            obtain ⟨_, hc', hf', dx', fv', q1, q2, q3, q4, q5⟩ := ex'.er.slf 0 c' fs' e0
            have sx : g'.sx = x := ex'.ext.sx
            rw [sx] at q1 q2 q4 q5
            refine ⟨rfl, h ⟨(g'.free x).mu, (g'.free x).M, g.sx⟩ H' (.ref x) (srb (sr'.free q5)) (back (ex'.ext.free nx0)) (.ins q2 (fun z => z.2 rfl) hc' hf' ?_)⟩
            exact (q3.wk (wk_free (p := x))).wk wk_sx
          | no => exact h.elim
          | val _ => exact h.elim
          | own _ => exact h.elim
          | ownD _ => exact h.elim
      | rt v => exact h.elim
      | bk env => exact h.elim
      | ct env => exact h.elim
    | exc y env s =>
      rw [e] at h
      intro g' H' σ' cls dd sr' ex' xr
      refine h ⟨g'.mu, g'.M, g.sx⟩ H' cls dd (srb sr') (back ex'.ext) ⟨xr.1, ?_⟩
      rcases xr.2 with z | ⟨d1, fv, z1, z2, z3, z4⟩
      · exact .inl z
      · exact .inr ⟨d1, fv, z1, z2, z3, z4.wk wk_sx⟩
    | bad => rw [e] at h; exact h.elim
theorem call_star {kk : Nat} {f : Addr} {name qual : Str} {params : Arguments} {body : List Stmt} {scope : Scope} {dV kV doc pm cdv ct oc : Value} {an od : Option Addr}
    {osl : Array (Option Value)} {N ps : List Str} {pv : Str} {A : Around} {outer : List PySem.Env} {s : Shared} {H : Hp} {u1 u2 : List Value} {ws rest : List V} {Q : VK} {E : XK} {K : PySem.W.Frag}
    (lk : K.lookup f = some ⟨oc, od, .func (PySem.W.fnOf name qual params body scope dV kV doc pm an cdv ct), osl⟩)
    (hcd : PySem.W.codeIn K cdv qual = true) (sc : FnScope N (ps ++ [pv]) scope) (hl : ws.length = ps.length) (hz : rest.length ≤ sizeLine) (hr : Room (kk + 1) A) (e0 : Env0 P w K mg base A outer s H)
    (hb : ∀ us rest : List Value, us.length = ps.length → bindArgs (PySem.W.fnOf name qual params body scope dV kV doc pm an cdv ct) ⟨us ++ rest, []⟩ = (newTuple rest >>= fun t => pure (ps.zip us ++ [(pv, t)])))
    (r1 : Vals ws u1) (r2 : Vals rest u2)
    (hbody : ∀ (s2 : Shared) (p : Addr), H p = none → wpSs (cxOf (L2.CX P w) P w K mg base N qual scope f cdv A outer s2 (upd H p (.tup rest)) E) body { nx := fun _ H' => Q .non H', rt := Q } (start N (ws ++ [V.ref p])) (upd H p (.tup rest))) :
    codeAny (model P w) A (.call (.ref f) ⟨u1 ++ u2, []⟩) (CR (L2.CX P w) outer P w H s Q E) s := by
  have hn : H s.heap.objs.size = Option.none := e0.hok.fresh (Nat.le_refl _)
  have hl1 : u1.length = ps.length := by rw [← r1.length]; exact hl
  have hl2 : u2.length ≤ sizeLine := by rw [← r2.length]; exact hz
  have KX : K.In s.heap := e0.mod.kin.keeps fun b o e => (e0.bs b o e).1
  refine codeAny_call_function hr.depth (KX _ _ lk) rfl sc.co sc.gen rfl (PySem.W.codeRec_of KX hcd) ?_
  rw [hb u1 u2 hl1]
  refine wpAny_bind (wpAny_newTuple (wpAny_pure ?_) hl2)
  have new : ObjOk P w (upd H s.heap.objs.size (.tup rest)) (s.heap.push ({ cls := .type "tuple", data := .seq u2.toArray } : Obj)) s.heap.objs.size (.tup rest) := ⟨hz, u2, r2, ⟨_, Heap.get?_push_size _ rfl, rfl, _, rfl⟩⟩
  have un := StX.un_laid (fs := frs outer) (s := s) (o := ({ cls := .type "tuple", data := .seq u2.toArray } : Obj)) (u := .tup rest) hn
  have e2 := StX.env0_laid e0 new
  have rr : Vals (ws ++ [V.ref s.heap.objs.size]) (u1 ++ [Value.ref s.heap.objs.size]) := r1.append (.cons rfl .nil)
  have hlen : (ws ++ [V.ref s.heap.objs.size]).length = (ps ++ [pv]).length := by rw [List.length_append, List.length_append, hl] <;> rfl
  have hx : ∀ e s', L2.CX P w outer (upd H s.heap.objs.size (.tup rest)) ({ s with heap := s.heap.push ({ cls := .type "tuple", data := .seq u2.toArray } : Obj) } : Shared) E e s' → L2.CX P w outer H s E e s' := fun e s' => StX.cxUp outer s H _ _ E e s' un (fun b o q => Heap.get?_push_of_some _ q) rfl
  have ez : ps.zip u1 ++ [(pv, Value.ref s.heap.objs.size)] = (ps ++ [pv]).zip (u1 ++ [Value.ref s.heap.objs.size]) := by rw [List.zip_append hl1.symm] <;> rfl
  rw [ez]
  generalize hs2 : ({ s with heap := s.heap.push ({ cls := .type "tuple", data := .seq u2.toArray } : Obj) } : Shared) = s2 at *
  have lim : s2.heap.NoLimit := e0.mod.nolimit.keeps fun b o e => (e2.bs b o e).1
  have hkind : ∀ y ∈ (ps ++ [pv]).zip (u1 ++ [Value.ref s.heap.objs.size]), scope.names.lookup y.1 = some .local ∨ (scope.names.lookup y.1 = some .cell ∧ ((cellsFrom (s2.heap.objs.size + 1) scope.names []).lookup y.1).isSome = true) := fun y hy => by
    rcases sc.par y.1 (List.of_mem_zip hy).1 with q | q
    · exact .inl q
    · exact .inr ⟨q, PySem.W.cellsFrom_some _ _ _ (.inl q)⟩
  refine wpAny_newFunctionEnv_cells (s := s2) sc.kind hkind fun env he s1 x => ?_
  subst he
  refine ⟨lim.keeps x.toInCall.keep, codeAny_func ?_⟩
  have I := inv_start (CX := L2.CX P w) (E := E) sc hr.hd e2 hlen rr x
  refine wpAny_mono (hbody s2 _ hn [] s1 I) (fun fl s' hs => ?_) fun e s' hs => ?_
  · have ho : s2.os = s.os := by rw [← hs2]
    have un2 : Un (frs outer) [] H (upd H s.heap.objs.size (.tup rest)) s.heap s2.heap := by rw [← hs2]; exact un
    have fin : ∀ {σ' : L2.St} {H' : Hp} {v' : V} {u' : Value}, Inv (cxOf (L2.CX P w) P w K mg base N qual scope f cdv A outer s2 (upd H s.heap.objs.size (.tup rest)) E) [] σ' H' s' → RelV v' u' → Q v' H' → CE outer P w H s Q u' s' :=
      fun {σ' H' v' u'} J rv' q => ⟨v', H', J.os.trans ho, J.bare, un2.trans J.base, J.hok, rv', q⟩
    cases fl with
    | ret u' =>
      obtain ⟨v', σ', H', J, rv', q⟩ := hs
      exact fin J rv' q
    | next =>
      obtain ⟨σ', H', J, q⟩ := hs
      exact fin (v' := V.non) (u' := Value.none) J rfl q
    | brk =>
      obtain ⟨_, _, _, q⟩ := hs
      exact False.elim q
    | cont =>
      obtain ⟨_, _, _, q⟩ := hs
      exact False.elim q
  · exact wpAny_mono hs (fun _ s'' z => hx e s'' z) fun e' s'' z => hx e' s'' z
theorem def_run {n lv : Nat} {q : String} {A0 : Addr → Prop} {x : Str} {d : Df} {N ps : List Str} {params : Arguments} {body : List Stmt} {scope : Scope} (M : Md F C mg w) (ih : ∀ f, fs.contains f = true → FnS F P w mg base (callN C t n) lv f) (ihm : ∀ c m q, C.mky c m = some q → FnM F P w mg base (callN C t n) lv c m q)
    (ht : t q = some d) (Dk : DefAt F A0 fs x d N ps params body scope) : ∃ fa, A0 fa ∧ PySem.W.keepIn F.K (.ref fa) = true ∧ FnRun F P w mg base (callN C t (n + 1)) (lv + 2) q fa := by
  obtain ⟨fa, fd, qual, dvs, kws, hm, FD, rd, hbinds⟩ := Dk.fd
  refine ⟨fa, hm, FD.kp, fun A outer s H us vs Q E ds st g hr0 hgd e0 rv sr rds h => ?_⟩
  have hr : Room (lv + 1) A := hr0.mono (by omega)
  simp only [callN, ht, Dk.va, Bool.false_eq_true, if_false] at h
  split at h
  · rename_i hlen
    have ldv : d.dfl.length = dvs.length := (rd g H).length
    obtain ⟨zs, rz, hbd⟩ := hbinds (d.dfl.length + ds.length - d.np) (by omega)
    obtain ⟨oc, od, dV, kV, doc, pm, an, cdv, ct, osl, rfl, lk, hcd, _, _⟩ := FD.ex
    have rall : Vals (vs ++ dvs.drop (d.dfl.length + ds.length - d.np)) (us ++ zs) := rv.append rz
    have rep : Reps F g H (ds ++ d.dfl.drop (d.dfl.length + ds.length - d.np)) (vs ++ dvs.drop (d.dfl.length + ds.length - d.np)) := rds.append ((rd g H).drop _)
    have hl1 : (vs ++ dvs.drop (d.dfl.length + ds.length - d.np)).length = ps.length := by
      rw [← rep.length, List.length_append, List.length_drop, Dk.np]
      omega
    have kx : F.K.In s.heap := e0.mod.kin.keeps fun b o e => (e0.bs b o e).1
    have hb := hbd s us kx (by rw [← rall.length]; exact hl1)
    have hl2 : (ds ++ d.dfl.drop (d.dfl.length + ds.length - d.np)).length = d.np := by
      rw [rep.length, hl1, Dk.np]
    exact call_def lk hcd Dk.sc hl1 hr e0 hb rall (body_ok M ih ihm Dk.core hr hgd sr rep hl2 h)
  · exact h.elim
theorem ctor_run {n lv : Nat} {c : String} {d : Df} {N ps : List Str} {params : Arguments} {body : List Stmt} {scope : Scope} (M : Md F C mg w) (ih : ∀ f, fs.contains f = true → FnS F P w mg base (callN C t n) lv f) (ihm : ∀ c m q, C.mky c m = some q → FnM F P w mg base (callN C t n) lv c m q)
    (ht : t c = none) (hct : C.ctor c = some d) (Dk : CtorOk F mg fs c d N ps params body scope) : FnS F P w mg base (callN C t (n + 1)) (lv + 2) c := by
  obtain ⟨fa, fd, qual, dvs, kws, ⟨hm, mk, hcl⟩, FD, rd, hbinds⟩ := Dk.fd
  refine ⟨F.ca c, hm, mk.kp, fun A outer s H us vs Q E ds st g hr hgd e0 rv sr rds h => ?_⟩
  simp only [callN, ht, hct] at h
  split at h
  · rename_i hlen
    have ldv : d.dfl.length = dvs.length := (rd g H).length
    obtain ⟨zs, rz, hbd⟩ := hbinds (d.dfl.length + (ds.length + 1) - d.np) (by omega)
    obtain ⟨oc, od, dV, kV, doc, pm, an, cdv, ct, osl, rfl, lk, hcd, _, _⟩ := FD.ex
    have kx : F.K.In s.heap := e0.mod.kin.keeps fun b o e => (e0.bs b o e).1
    have hx : H (s.heap.objs.size + 1) = none := e0.hok.fresh (Nat.le_succ _)
    have hdx : H s.heap.objs.size = none := e0.hok.fresh (Nat.le_refl _)
    have hne : s.heap.objs.size ≠ s.heap.objs.size + 1 := Nat.ne_of_lt (Nat.lt_succ_self _)
    have rep : Reps F g H (ds ++ d.dfl.drop (d.dfl.length + (ds.length + 1) - d.np)) (vs ++ dvs.drop (d.dfl.length + (ds.length + 1) - d.np)) := rds.append ((rd g H).drop _)
    have rall : Vals (V.ref (s.heap.objs.size + 1) :: (vs ++ dvs.drop (d.dfl.length + (ds.length + 1) - d.np))) (Value.ref (s.heap.objs.size + 1) :: (us ++ zs)) := .cons rfl (rv.append rz)
    have hl2 : (ds ++ d.dfl.drop (d.dfl.length + (ds.length + 1) - d.np)).length + 1 = d.np := by
      rw [List.length_append, List.length_drop]
      omega
    have hl1 : (V.ref (s.heap.objs.size + 1) :: (vs ++ dvs.drop (d.dfl.length + (ds.length + 1) - d.np))).length = ps.length := by
      rw [List.length_cons, ← rep.length, hl2, Dk.np]
    have e1 : (s.heap.push PySem.W.emptyDict).get? s.heap.objs.size = some PySem.W.emptyDict := Heap.get?_push_size s.heap rfl
    have e2 : ((s.heap.push PySem.W.emptyDict).push (PySem.W.instObj (F.ca c) s.heap.objs.size)).get? (s.heap.objs.size + 1) = some (PySem.W.instObj (F.ca c) s.heap.objs.size) := by
      have := Heap.get?_push_size (s.heap.push PySem.W.emptyDict) (o := PySem.W.instObj (F.ca c) s.heap.objs.size) rfl
      rwa [Heap.size_push] at this
    have e3 : (s.heap.push PySem.W.emptyDict).Ns s.heap.objs.size (fun _ => none) := ⟨PySem.W.emptyDict, #[], _, e1, rfl, (fun e he => absurd he (by simp)), fun _ => rfl⟩
    have E1 := StX.env0_laid (o := PySem.W.emptyDict) (u := .own (s.heap.objs.size + 1)) e0 ⟨_, e1⟩
    have sz : ({ s with heap := s.heap.push PySem.W.emptyDict } : Shared).heap.objs.size = s.heap.objs.size + 1 := Heap.size_push _ _
    have E2 := StX.env0_laid (o := PySem.W.instObj (F.ca c) s.heap.objs.size) (u := .ins (F.ca c) s.heap.objs.size []) E1 (by
      rw [sz]
      refine ⟨by rw [upd_ne hne, upd_same], Nat.zero_le _, hne, e2, fun _ => none, (Heap.Ns1.of_empty e3).at fun o q => Heap.get?_push_of_some _ q, fun _ => True.intro, fun y hy => absurd rfl hy⟩)
    rw [sz] at E2
    have un : Un (frs outer) [] H (upd (upd H s.heap.objs.size (.own (s.heap.objs.size + 1))) (s.heap.objs.size + 1) (.ins (F.ca c) s.heap.objs.size [])) s.heap ((s.heap.push PySem.W.emptyDict).push (PySem.W.instObj (F.ca c) s.heap.objs.size)) := by
      have u1 := StX.un_laid (fs := frs outer) (s := s) (o := PySem.W.emptyDict) (u := HO.own (s.heap.objs.size + 1)) hdx
      have u2 := StX.un_laid (fs := frs outer) (s := { s with heap := s.heap.push PySem.W.emptyDict }) (o := PySem.W.instObj (F.ca c) s.heap.objs.size) (u := HO.ins (F.ca c) s.heap.objs.size []) (H := upd H s.heap.objs.size (.own (s.heap.objs.size + 1))) (by rw [sz, upd_ne (Ne.symm hne)]; exact hx)
      rw [sz] at u2
      exact u1.trans u2
    have kp : ∀ b o, s.heap.get? b = some o → ((s.heap.push PySem.W.emptyDict).push (PySem.W.instObj (F.ca c) s.heap.objs.size)).get? b = some o := fun b o q => Heap.get?_push_of_some _ (Heap.get?_push_of_some _ q)
    have kx2 : F.K.In ((s.heap.push PySem.W.emptyDict).push (PySem.W.instObj (F.ca c) s.heap.objs.size)) := kx.keeps kp
    have hb := hbd { s with heap := (s.heap.push PySem.W.emptyDict).push (PySem.W.instObj (F.ca c) s.heap.objs.size) } (Value.ref (s.heap.objs.size + 1) :: us) kx2 (by rw [List.cons_append, ← rall.length]; exact hl1)
    refine make_map (f := fa) kx mk.makes mk.init (beq_iff_eq.mp mk.fn) (codeAny_mono (call_def (Q := fun v H' => v = V.non ∧ Q (.ref (s.heap.objs.size + 1)) H') (E := E) lk hcd Dk.sc hl1 (hr.make (F.ca c) us []) (E2.make (F.ca c) us []) hb rall
      (init_ok M ih ihm Dk.core (hr.make (F.ca c) us []) ?_ sr rep hl2 hcl h hx hdx hne)) fun r s' hq => ?_)
    · exact hgd
    · cases r with
      | error e => exact StX.cxUp (P := P) (w := w) outer s H { s with heap := (s.heap.push PySem.W.emptyDict).push (PySem.W.instObj (F.ca c) s.heap.objs.size) } _ E e s' un kp rfl hq
      | ok fl =>
        cases fl with
        | ret u =>
          obtain ⟨v, H', os, ba, un', hok, rv', ev, q⟩ := hq
          subst ev
          exact ⟨rv', V.ref (s.heap.objs.size + 1), H', os, ba, un.trans un', hok, rfl, q⟩
        | next => exact hq.elim
        | brk => exact hq.elim
        | cont => exact hq.elim
  · exact h.elim
theorem star_run {n lv : Nat} {f : String} {d : Df} {N ps : List Str} {params : Arguments} {body : List Stmt} {scope : Scope} (M : Md F C mg w) (ih : ∀ f, fs.contains f = true → FnS F P w mg base (callN C t n) lv f) (ihm : ∀ c m q, C.mky c m = some q → FnM F P w mg base (callN C t n) lv c m q)
    (ht : t f = some d) (Dk : DefVa F mg fs f d N ps params body scope) : FnS F P w mg base (callN C t (n + 1)) (lv + 2) f := by
  obtain ⟨fa, fd, qual, kws, hm, FD, pv, ps0, rfl, hbd⟩ := Dk.fd
  refine ⟨fa, hm, FD.kp, fun A outer s H us vs Q E ds st g hr0 hgd e0 rv sr rds h => ?_⟩
  have hr : Room (lv + 1) A := hr0.mono (by omega)
  simp only [callN, ht, Dk.va, if_true] at h
  split at h
  · rename_i hz
    have hnp : ps0.length = d.np - 1 := by
      have := Dk.core.np
      simp at this
      omega
    by_cases hl2 : (ds.take (d.np - 1) ++ [D.tup (ds.drop (d.np - 1))]).length = d.np
    · obtain ⟨oc, od, dV, kV, doc, pm, an, cdv, ct, osl, rfl, lk, hcd, _, _⟩ := FD.ex
      have ev : vs = vs.take (d.np - 1) ++ vs.drop (d.np - 1) := (List.take_append_drop _ _).symm
      rw [ev] at rv
      obtain ⟨u1, u2, rfl, r1, r2⟩ := StX.vals_split rv
      have hlw : (vs.take (d.np - 1)).length = ps0.length := by
        rw [List.length_append, List.length_take] at hl2
        rw [List.length_take, ← rds.length, hnp]
        simp at hl2
        omega
      refine call_star lk hcd Dk.core.sc hlw (by rw [List.length_drop, ← rds.length]; omega) hr e0 hbd r1 r2 fun s2 p hp => ?_
      have sr2 : SR F st g (upd H p (.tup (vs.drop (d.np - 1)))) := sr.new hp
      have ex := ext_new (g := g) (o := HO.tup (vs.drop (d.np - 1))) hp
      have rep : Reps F g (upd H p (.tup (vs.drop (d.np - 1)))) (ds.take (d.np - 1) ++ [D.tup (ds.drop (d.np - 1))]) (vs.take (d.np - 1) ++ [V.ref p]) :=
        ((rds.take _).mono sr.live ex).append (.cons (rep_tup_new sr hp (rds.drop _)) .nil)
      exact body_ok M ih ihm Dk.core hr hgd sr2 rep hl2 (h.later ex)
    · unfold runB at h
      rw [if_neg hl2] at h
      exact h.elim
  · exact h.elim
/-- what the texts must say, for all defs -/
def TabF (F : Fx) (C : Cn) (t : Tbl) (mg : Str → Option Value) (fs : List String) : Prop := ∀ f, fs.contains f = true → ∃ d N ps params body scope,
  (t f = some d ∧ (DefOk F mg fs f d N ps params body scope ∨ DefVa F mg fs f d N ps params body scope)) ∨ (t f = none ∧ C.ctor f = some d ∧ CtorOk F mg fs f d N ps params body scope)
def TabM (F : Fx) (C : Cn) (t : Tbl) (fs : List String) : Prop := ∀ c m q, C.mky c m = some q → ∃ d N ps params body scope, t q = some d ∧ MethOk F fs c m d N ps params body scope
theorem fnm_ok (M : Md F C mg w) (T : TabF F C t mg fs) (TM : TabM F C t fs) : ∀ n, (∀ f, fs.contains f = true → FnS F P w mg base (callN C t n) (2 * n) f) ∧ ∀ c m q, C.mky c m = some q → FnM F P w mg base (callN C t n) (2 * n) c m q
  | 0 => by
    refine ⟨fun f hf => ?_, fun c m q hq => ?_⟩
    · obtain ⟨d, N, ps, params, body, scope, ⟨ht, Dk | Dk⟩ | ⟨ht, hc, Dk⟩⟩ := T f hf
      · obtain ⟨fa, fd, qual, dvs, kws, hm, FD, _⟩ := Dk.fd
        exact ⟨fa, hm, FD.kp, fun A outer s H us vs Q E ds st g _ _ _ _ _ _ h => h.elim⟩
      · obtain ⟨fa, fd, qual, kws, hm, FD, _⟩ := Dk.fd
        exact ⟨fa, hm, FD.kp, fun A outer s H us vs Q E ds st g _ _ _ _ _ _ h => h.elim⟩
      · obtain ⟨fa, fd, qual, dvs, kws, ⟨hm, mk, hcl⟩, FD, _⟩ := Dk.fd
        exact ⟨_, hm, mk.kp, fun A outer s H us vs Q E ds st g _ _ _ _ _ _ h => h.elim⟩
    · obtain ⟨d, N, ps, params, body, scope, ht, Dk⟩ := TM c m q hq
      obtain ⟨fa, fd, qual, dvs, kws, hm, FD, _⟩ := Dk.fd
      exact ⟨fa, fun A outer s H us vs Q E ds st g _ _ _ _ _ _ h => h.elim, hm⟩
  | n + 1 => by
    obtain ⟨ih, ihm⟩ := fnm_ok M T TM n
    refine ⟨fun f hf => ?_, fun c m q hq => ?_⟩
    · obtain ⟨d, N, ps, params, body, scope, ⟨ht, Dk | Dk⟩ | ⟨ht, hc, Dk⟩⟩ := T f hf
      · exact def_run M ih ihm ht Dk
      · exact star_run M ih ihm ht Dk
      · exact ctor_run M ih ihm ht hc Dk
    · obtain ⟨d, N, ps, params, body, scope, ht, Dk⟩ := TM c m q hq
      obtain ⟨fa, hm, _, run⟩ := def_run M ih ihm ht Dk
      exact ⟨fa, run, hm⟩
theorem fns_ok (M : Md F C mg w) (T : TabF F C t mg fs) (TM : TabM F C t fs) (n : Nat) (f : String) (hf : fs.contains f = true) : FnS F P w mg base (callN C t n) (2 * n) f := (fnm_ok M T TM n).1 f hf
end
end PV

set_option Elab.async false
set_option linter.all false
set_option maxRecDepth 100000
set_option maxHeartbeats 2000000
set_option exponentiation.threshold 30000
namespace PV
open PySem PySem.Spec PyProof.Rows L2
/-- the law's call, from what the evaluator says of it -/
theorem law_run {P : Program} {w : World} {F : Fx} {mg mb : Str → Option Value} {lv : Nat} {Φ : Fe} {fa a : Addr} {sh : Shared} {vs : List Value} {ns : List Int} {st' : S}
    (KX : F.K.In sh.heap) (hns : sh.heap.Ns mainGlobals mg) (hb : sh.heap.Ns builtinsNs mb) (hbb : ∀ x : Str, x ≠ "__name__" → mb x = bootBuiltins x) (hlim : sh.heap.NoLimit) (hg : sh.gens = #[])
    (ha : sh.heap.get? a = some { cls := .type "list", data := .seq vs.toArray }) (hi : IntsAre vs ns) (hl : ns.length ≤ sizeLine) (hr : Room lv callerA)
    (hfa : mg (Str.ofString "law") = some (.ref fa)) (fn : ∀ base, FnS F P w mg base Φ lv "law") (hv : Φ "law" [.scr ns] [] = .ok (.bl true) st') :
    codeAny (model P w) callerA (.call (.ref fa) ⟨[.ref a], []⟩) (fun r s' => r = .ok (.ret (.bool true)) ∧ OldK sh.heap s'.heap ∧ s'.os = sh.os ∧ AllBare s'.gens) sh := by
  have rv := vals_ints hi
  have lenV := hi.length
  have main : ∀ H : Hp, (∀ b, H b = none ∨ (b = a ∧ H b = some (.frz { cls := .type "list", data := .seq vs.toArray } (.lst (ns.map V.int))))) → ScrAt F ⟨fun _ => none, fun _ => False, 0⟩ H a ns → (H a ≠ none → F.K.lookup a = none) →
      codeAny (model P w) callerA (.call (.ref fa) ⟨[.ref a], []⟩) (fun r s' => r = .ok (.ret (.bool true)) ∧ OldK sh.heap s'.heap ∧ s'.os = sh.os ∧ AllBare s'.gens) sh := by
    intro H hO hS hK
    have hok : HOk P w H sh.heap := fun b u e => by
      rcases hO b with z | ⟨rfl, z⟩
      · rw [z] at e; cases e
      · rw [z] at e; cases e
        exact ⟨ha, by rw [List.length_map]; exact hl, vs, _, rv, ha⟩
    have dictFree : ∀ {b : Addr} {o : Obj} {es : Array DictEntry} {ep : Nat}, sh.heap.get? b = some o → o.data = .dict es ep → H b = none := fun {b o es ep} e dd => by
      rcases hO b with z | ⟨rfl, z⟩
      · exact z
      · rw [ha] at e
        cases e
        cases dd
    have nsB : ∀ {b : Addr} {m : Str → Option Value}, sh.heap.Ns b m → (hidT sh.heap H).Ns b m := by
      rintro b m ⟨o, es, ep, e, dd, r⟩
      exact ⟨o, es, ep, hidT_get e (dictFree e dd), dd, r⟩
    have kB : F.K.In (hidT sh.heap H) := fun b o e => hidT_get (KX b o e) (by
      rcases hO b with z | ⟨rfl, z⟩
      · exact z
      · rw [hK (by rw [z]; simp)] at e; cases e)
    have mod : Mod F.K mg (hidT sh.heap H) := by
      refine ⟨kB, nsB hns, ⟨mb, nsB hb, hbb⟩, ?_⟩
      obtain ⟨mc, h1, h2⟩ := hlim
      exact ⟨mc, nsB h1, h2⟩
    have e0 : Env0 P w F.K mg (hidT sh.heap H) callerA [] sh H :=
      ⟨rfl, mod, fun b o e => of_hidT e, Nat.le_of_eq (hidT_size _ _), trivial, fun b hb => (by cases hb), hok, .of_eq hg⟩
    obtain ⟨fa', hm, _, run⟩ := fn (hidT sh.heap H)
    rw [hfa] at hm
    cases hm
    have sr : SR F [] ⟨fun _ => none, fun _ => False, 0⟩ H := ⟨fun i o h => (by simp at h), fun i j a h => (by cases h), fun i a h => (by cases h), fun i a h => (by cases h), fun a h => h.elim⟩
    have post : Post F (Rep F) ⟨fun _ => none, fun _ => False, 0⟩ H (fun v _ => v = .bl true) (fun _ _ _ => False) (Φ "law" [.scr ns] []) := by
      rw [hv]
      intro g' H' v _ _ rv
      cases rv
      rfl
    refine codeAny_mono (run callerA [] sh H [.ref a] [.ref a] _ _ [.scr ns] [] _ hr rfl e0 (.cons rfl .nil) sr (.cons (.scr hS) .nil) post) fun r s' h => ?_
    cases r with
    | error e =>
      obtain ⟨_, _, _, _, _, _, _, _, _, _, _, _, z⟩ := h
      exact z.elim
    | ok fl =>
      cases fl with
      | ret u =>
        obtain ⟨v, H', os, bare, un, hok', r', q⟩ := h
        have q' : v = .bl true := q
        subst q'
        obtain rfl : u = Value.bool true := r'
        refine ⟨rfl, OldK.of_keep fun b o e => ?_, os, bare⟩
        rcases hO b with z | ⟨_, z⟩
        · exact un.keep b o e z (fun y => by cases y) (fun y => by cases y)
        · obtain ⟨e1, _⟩ := hok b _ z
          obtain ⟨e2, _⟩ := hok' b _ (un.frzs b _ _ z)
          rw [e] at e1
          cases e1
          exact e2
      | next => exact h.elim
      | brk => exact h.elim
      | cont => exact h.elim
  cases hk : F.K.lookup a with
  | some o =>
    have e := KX a o hk
    rw [ha] at e
    cases e
    exact main (fun _ => none) (fun _ => .inl rfl) (.inr ⟨_, vs.toArray, _, hk, rfl, rfl, rfl, by rw [List.size_toArray, lenV]; exact hl, by simpa using rv⟩) fun z => absurd rfl z
  | none =>
    refine main (fun b => if b = a then some (.frz { cls := .type "list", data := .seq vs.toArray } (.lst (ns.map V.int))) else none) (fun b => ?_) (.inl ⟨⟨_, if_pos rfl⟩, fun z => z⟩) fun _ => hk
    by_cases hb : b = a
    · exact .inr ⟨hb, if_pos hb⟩
    · exact .inl (if_neg hb)
/-- the end of a law's row -/
theorem law_end {l : PySem.W.OpenLaw} {n lv : Nat} {q : Program} {loose : List Str} {XP : (Str → Option Value) → Heap → Prop} {YP : World → Heap → Prop} {d : DefRec}
    (hn : l.most = some n) (hn2 : n ≤ sizeLine) (hdf : d.params.defaults = []) (hdn : d.name = Str.ofString "law") (hr : Room lv callerA)
    (facts : ∀ (w : World) (mg : Str → Option Value) (h : Heap), YP w h → h.Ns mainGlobals mg → ∃ (F : Fx) (Φ : Fe), F.K.In h ∧ (∀ base, FnS F l.prog w mg base Φ lv "law") ∧ ∀ ns : List Int, ns.length ≤ n → ∃ st', Φ "law" [.scr ns] [] = .ok (.bl true) st') :
    PySem.W.WalkO q loose XP YP l.row.toRowW d [] (fun f vs => PySem.call f vs) := by
  refine Att.attach_call hn hdf fun w s0 s1 mg mb fa o pm cd doc a vs ns G Y ho hd hcd hmg hobj hints hlen hg => ?_
  obtain ⟨F, Φ, KX, fn, hv⟩ := facts w mg _ Y G.T.g
  obtain ⟨st', hv⟩ := hv ns hlen
  exact law_run KX G.T.g G.T.b G.T.builtins G.T.nolimit hg hobj hints (Nat.le_trans hlen hn2) hr (hdn ▸ hmg) fn hv
end PV

set_option Elab.async false
set_option linter.all false
set_option maxRecDepth 100000
set_option maxHeartbeats 1000000
set_option exponentiation.threshold 30000
/-! the evaluator, step by step: what follows a step stands unapplied, so that nothing is opened before its turn -/
namespace PV
open PySem PySem.Spec PyProof.Rows L2
/-! ### lists of expressions -/
def kCons (r : R D) (f : S → R (List D)) : R (List D) := r.bind fun d s1 => (f s1).bind fun ds s2 => .ok (d :: ds) s2
def kCons1 (d : D) (r : R (List D)) : R (List D) := r.bind fun ds s2 => .ok (d :: ds) s2
def kTup (r : R (List D)) : R D := r.bind fun ds s => if ds.length ≤ sizeLine then .ok (.tup ds) s else .bad
def kLst (r : R (List D)) : R D := r.bind fun ds s => if ds.length ≤ sizeLine then .ok (.lst ds) s else .bad
def kLstM (r : R (List D)) : R D := r.bind fun ds s => if ds.length ≤ sizeLine then .ok (.obj s.length) (s ++ [.lst ds]) else .bad
def kCall (Φ : Fe) (f : String) (r : R (List D)) : R D := r.bind fun ds s1 => Φ f ds s1
def evB (C : Cn) (Φ : Fe) (a : E) (env : DE) (st : S) : R D := bor a env st (evE C Φ a env st)
def kBin (op : BO) (r : R D) (f : S → R D) : R D := r.bind fun x s1 => (f s1).bind fun y s2 => ofO (binD op (resD s2 x) (resD s2 y)) s2
def kBin1 (op : BO) (x : D) (r : R D) : R D := r.bind fun y s2 => ofO (binD op (resD s2 x) (resD s2 y)) s2
def kNeg (r : R D) : R D := r.bind fun x s1 => (match x with
    | .int i => .ok (.int (-i)) s1
    | _ => .bad)
def kNot (r : R D) : R D := r.bind fun x s1 => (match x with
    | .bl b => .ok (.bl !b) s1
    | _ => .bad)
def kAnd (r : R D) (f : S → R D) : R D := r.bind fun x s1 => (match x with
    | .bl true => f s1
    | .bl false => .ok (.bl false) s1
    | _ => .bad)
def kOr (r : R D) (f : S → R D) : R D := r.bind fun x s1 => (match x with
    | .bl false => f s1
    | .bl true => .ok (.bl true) s1
    | _ => .bad)
def kCmp (op : CO) (r : R D) (f : S → R D) : R D := r.bind fun x s1 => (f s1).bind fun y s2 => ofO ((cmpD op (resD s2 x) (resD s2 y)).map .bl) s2
def kCmp1 (op : CO) (x : D) (r : R D) : R D := r.bind fun y s2 => ofO ((cmpD op (resD s2 x) (resD s2 y)).map .bl) s2
def kCmpC (op : CO) (x : D) (r : R D) : R D := r.bind fun y s2 => ofO ((cmpD op x y).map .bl) s2
def kCh (o1 o2 : CO) (r : R D) (f h : S → R D) : R D := r.bind fun x s1 => (f s1).bind fun y s2 => (match cmpD o1 x y with
    | some true => (h s2).bind fun z s3 => ofO ((cmpD o2 y z).map .bl) s3
    | some false => .ok (.bl false) s2
    | none => .bad)
def kCh1 (o1 o2 : CO) (x : D) (r : R D) (h : S → R D) : R D := r.bind fun y s2 => (match cmpD o1 x y with
    | some true => (h s2).bind fun z s3 => ofO ((cmpD o2 y z).map .bl) s3
    | some false => .ok (.bl false) s2
    | none => .bad)
def kCh2 (o2 : CO) (y : D) (h : S → R D) (s2 : S) (o : Option Bool) : R D := match o with
    | some true => kCmpC o2 y (h s2)
    | some false => .ok (.bl false) s2
    | none => .bad
def kIsN (r : R D) : R D := r.bind fun x s1 => (match x with
    | .non => .ok (.bl true) s1
    | _ => .ok (.bl false) s1)
def kNotN (r : R D) : R D := r.bind fun x s1 => (match x with
    | .non => .ok (.bl false) s1
    | _ => .ok (.bl true) s1)
def kIf {α : Type} (r : R Bool) (f h : S → R α) : R α := r.bind fun k s1 => if k = true then f s1 else h s1
def kSub (r : R D) (f : S → R D) : R D := r.bind fun x s1 => (f s1).bind fun y s2 => ofO (subD s2 x y) s2
def kSub1 (x : D) (r : R D) : R D := r.bind fun y s2 => ofO (subD s2 x y) s2
def kSl (r : R D) (f h : S → R (Option Int)) : R D := r.bind fun x s1 => (f s1).bind fun l s2 => (h s2).bind fun u s3 => ofO (sliceD s3 x l u) s3
def kSl1 (x : D) (r : R (Option Int)) (h : S → R (Option Int)) : R D := r.bind fun l s2 => (h s2).bind fun u s3 => ofO (sliceD s3 x l u) s3
def kSl2 (x : D) (l : Option Int) (r : R (Option Int)) : R D := r.bind fun u s3 => ofO (sliceD s3 x l u) s3
def kBi (b : Bi) (r : R D) : R D := r.bind fun x s1 => ofO (biD s1 b x) s1
def kListM (r : R D) : R D := r.bind fun x s1 => (match itemsD s1 x with
    | some xs => .ok (.obj s1.length) (s1 ++ [.lst xs])
    | none => .bad)
def kFmt (r : R D) : R D := r.bind fun x s1 => ofO (fmtD x) s1
def kJoin (z : String) (r : R D) : R D := r.bind fun y s1 => ofO (joinD s1 (Str.ofString z) y) s1
def kJ (acc : Str) (f : Str → S → R D) (r : R D) : R D := r.bind fun d s1 => (match d with
    | .str y => if (acc ++ y).length ≤ sizeLine then f (acc ++ y) s1 else .bad
    | _ => .bad)
def kIsi (t : Ty) (r : R D) : R D := r.bind fun x s1 => ofO ((isiD x t).map .bl) s1
def kComp (f : D → S → R D) (r : R D) : R D := r.bind fun x s1 => (match itemsD [] x with
    | some xs => (compL f xs s1).bind fun ds s2 => if ds.length ≤ sizeLine then .ok (.lst ds) s2 else .bad
    | none => .bad)
def kTru (r : R D) : R Bool := r.bind fun x s1 => (match truD s1 x with
    | some b => .ok b s1
    | none => .bad)
def kTAnd (r : R Bool) (f : S → R Bool) : R Bool := r.bind fun k s1 => if k = true then f s1 else .ok false s1
def kTOr (r : R Bool) (f : S → R Bool) : R Bool := r.bind fun k s1 => if k = true then .ok true s1 else f s1
def kTNot (r : R Bool) : R Bool := r.bind fun k s1 => .ok (!k) s1
def kTB (r : R D) : R Bool := r.bind fun x s1 => (match x with
    | .bl b => .ok b s1
    | _ => .bad)
def kInt (r : R D) : R (Option Int) := r.bind fun d s1 => (match d with
    | .int i => .ok (some i) s1
    | _ => .bad)
section
variable {C : Cn} {Φ : Fe} {env : DE} {st s : S} {a b c : E} {es : Es} {d x y : D} {f h : S → R D} {xx : XD}
theorem e_var {i : Nat} : evE C Φ (.var i) env st = (match env[i]? with | some (.val d) => .ok d st | _ => .bad) := rfl
theorem e_int {i : Int} : evE C Φ (.int i) env st = .ok (.int i) st := rfl
theorem e_str {z : String} : evE C Φ (.str z) env st = .ok (.str (Str.ofString z)) st := rfl
theorem e_bl {k : Bool} : evE C Φ (.bl k) env st = .ok (.bl k) st := rfl
theorem e_non : evE C Φ .non env st = .ok .non st := rfl
theorem e_glob {z : String} : evE C Φ (.glob z) env st = ofO (C.con z) st := rfl
theorem e_tup : evE C Φ (.tup es) env st = kTup (evEs C Φ es env st) := rfl
theorem e_lst : evE C Φ (.lst es) env st = kLst (evEs C Φ es env st) := rfl
theorem e_lstM : evE C Φ (.lstM es) env st = kLstM (evEs C Φ es env st) := rfl
theorem e_dic0 : evE C Φ .dic0 env st = .ok (.dic []) st := rfl
theorem e_bin {op : BO} : evE C Φ (.bin op a b) env st = kBin op (evB C Φ a env st) (evB C Φ b env) := rfl
theorem e_neg : evE C Φ (.neg a) env st = kNeg (evE C Φ a env st) := rfl
theorem e_not : evE C Φ (.not a) env st = kNot (evE C Φ a env st) := rfl
theorem e_and : evE C Φ (.and a b) env st = kAnd (evE C Φ a env st) (evE C Φ b env) := rfl
theorem e_or : evE C Φ (.or a b) env st = kOr (evE C Φ a env st) (evE C Φ b env) := rfl
theorem e_cmp {op : CO} : evE C Φ (.cmp op a b) env st = kCmp op (evB C Φ a env st) (evB C Φ b env) := rfl
theorem e_chain {o1 o2 : CO} : evE C Φ (.chain o1 o2 a b c) env st = kCh o1 o2 (evE C Φ a env st) (evE C Φ b env) (evE C Φ c env) := rfl
theorem e_isN : evE C Φ (.isN a) env st = kIsN (evE C Φ a env st) := rfl
theorem e_notN : evE C Φ (.notN a) env st = kNotN (evE C Φ a env st) := rfl
theorem e_ifx {t : T} : evE C Φ (.ifx t a b) env st = kIf (evT C Φ t env st) (evE C Φ a env) (evE C Φ b env) := rfl
theorem e_sub : evE C Φ (.sub a b) env st = kSub (evB C Φ a env st) (evE C Φ b env) := rfl
theorem e_slice {lo hi : Eo} : evE C Φ (.slice a lo hi) env st = kSl (evB C Φ a env st) (evO C Φ lo env) (evO C Φ hi env) := rfl
theorem e_call {g : String} : evE C Φ (.call g es) env st = kCall Φ g (evEs C Φ es env st) := rfl
theorem e_bi {k : Bi} : evE C Φ (.bi k a) env st = kBi k (evB C Φ a env st) := rfl
theorem e_listM : evE C Φ (.listM a) env st = kListM (evB C Φ a env st) := rfl
theorem e_fmt : evE C Φ (.fmt a) env st = kFmt (evE C Φ a env st) := rfl
theorem e_fstr : evE C Φ (.fstr es) env st = evJ C Φ es Str.empty env st := rfl
theorem e_join {z : String} : evE C Φ (.join z a) env st = kJoin z (evB C Φ a env st) := rfl
theorem j_nil {acc : Str} : evJ C Φ .nil acc env st = .ok (.str acc) st := rfl
theorem j_cons {acc : Str} : evJ C Φ (.cons a es) acc env st = kJ acc (fun acc s => evJ C Φ es acc env s) (evE C Φ a env st) := rfl
theorem e_isi {t : Ty} : evE C Φ (.isi a t) env st = kIsi t (evE C Φ a env st) := rfl
theorem e_comp {i : Nat} : evE C Φ (.comp a i b) env st = kComp (fun d s => evE C Φ a (env.set i (.val d)) s) (evE C Φ b env st) := rfl
def cst1 (C : Cn) (Φ : Fe) (el : E) (c : To) (o : Option DE) (s : S) : R (Option D) := match o with
  | some env' => (evC C Φ c env' s).bind fun k s2 => if k = true then (evE C Φ el env' s2).bind fun y s3 => .ok (some y) s3 else .ok none s2
  | none => .bad
def cstep (C : Cn) (Φ : Fe) (el : E) (t : Tg) (c : To) (env : DE) (d : D) (s : S) : R (Option D) := cst1 C Φ el c (bindT t d env) s
def kSome (r : R D) : R (Option D) := r.bind fun y s3 => .ok (some y) s3
def kCC (r : R Bool) (f : S → R D) : R (Option D) := r.bind fun k s2 => if k = true then kSome (f s2) else .ok none s2
def kCompI (f : D → S → R (Option D)) (r : R (List D)) : R D := r.bind fun xs s1 => (compO f xs s1).bind fun ds s2 => if ds.length ≤ sizeLine then .ok (.lst ds) s2 else .bad
def kCompE (r : R (List D)) : R D := r.bind fun ds s2 => if ds.length ≤ sizeLine then .ok (.lst ds) s2 else .bad
def kSset (r : R D) : R D := r.bind fun x s1 => (match x with
    | .lst xs => (match strsD xs with
      | some zs => if zs.length < 4000 ∧ (ddS zs).length < 64 then .ok (.lst ((ssetS zs).map .str)) s1 else .bad
      | none => .bad)
    | _ => .bad)
def kLset (r : R D) : R D := r.bind fun x s1 => (match x with
    | .lst xs => (match strsD xs with
      | some zs => if zs.length < 4000 then .ok (.int (ddS zs).length) s1 else .bad
      | none => .bad)
    | _ => .bad)
def kAllL (r : R D) : R D := r.bind fun x s1 => (match x with
    | .lst xs => (match boolsD xs with
      | some bs => .ok (.bl (bs.all id)) s1
      | none => .bad)
    | _ => .bad)
def kSeq (r : R D) : R (List D) := r.bind fun x s1 => (match itemsC x with
    | some xs => .ok xs s1
    | none => .bad)
def kRng (r : R D) : R (List D) := r.bind fun x s1 => (match x with
    | .int k => if -(2 ^ 62) ≤ k ∧ k < 2 ^ 62 then .ok (rngD 0 k.toNat) s1 else .bad
    | _ => .bad)
def rngF (x y : D) (s : S) : R (List D) := match x, y with
    | .int i, .int j => if ((-(2 ^ 62) ≤ i ∧ i < 2 ^ 62) ∧ -(2 ^ 62) ≤ j ∧ j < 2 ^ 62) then .ok (rngD i (j - i).toNat) s else .bad
    | _, _ => .bad
def kRng2 (r : R D) (f : S → R D) : R (List D) := r.bind fun x s1 => (f s1).bind fun y s2 => rngF x y s2
def kRng21 (x : D) (r : R D) : R (List D) := r.bind fun y s2 => rngF x y s2
def kEnum (r : R D) : R (List D) := r.bind fun x s1 => (match x with
    | .lst xs => .ok (enumD 0 xs) s1
    | _ => .bad)
def zipF (x y : D) (s : S) : R (List D) := match x, y with
    | .lst xs, .lst ys => .ok (zipD xs ys) s
    | _, _ => .bad
def kZip (r : R D) (f : S → R D) : R (List D) := r.bind fun x s1 => (f s1).bind fun y s2 => zipF x y s2
def kZip1 (x : D) (r : R D) : R (List D) := r.bind fun y s2 => zipF x y s2
theorem e_compI {t : Tg} {it : I} {c : To} : evE C Φ (.compI a t it c) env st = kCompI (cstep C Φ a t c env) (evI C Φ it env st) := rfl
theorem cstep_ap {t : Tg} {c : To} : cstep C Φ a t c env d s = cst1 C Φ a c (bindT t d env) s := rfl
theorem cst1_some {c : To} {env' : DE} : cst1 C Φ a c (some env') s = kCC (evC C Φ c env' s) (evE C Φ a env') := rfl
theorem kCC_ok {k : Bool} {f : S → R D} : kCC (.ok k s) f = if k = true then kSome (f s) else .ok none s := rfl
theorem kSome_ok : kSome (.ok d s) = .ok (some d) s := rfl
theorem c_no : evC C Φ .no env st = .ok true st := rfl
theorem c_some {t : T} : evC C Φ (.some t) env st = evT C Φ t env st := rfl
theorem kCompI_ok {f : D → S → R (Option D)} {xs : List D} : kCompI f (.ok xs s) = kCompE (compO f xs s) := rfl
theorem kCompE_ok {ds : List D} : kCompE (.ok ds s) = if ds.length ≤ sizeLine then .ok (.lst ds) s else .bad := rfl
theorem e_sset : evE C Φ (.sset a) env st = kSset (evB C Φ a env st) := rfl
theorem e_lset : evE C Φ (.lset a) env st = kLset (evB C Φ a env st) := rfl
theorem e_allL : evE C Φ (.allL a) env st = kAllL (evB C Φ a env st) := rfl
theorem i_seq : evI C Φ (.seq a) env st = kSeq (evE C Φ a env st) := rfl
theorem i_rng : evI C Φ (.rng a) env st = kRng (evE C Φ a env st) := rfl
theorem i_rng2 : evI C Φ (.rng2 a b) env st = kRng2 (evE C Φ a env st) (evE C Φ b env) := rfl
theorem i_enum : evI C Φ (.enum a) env st = kEnum (evE C Φ a env st) := rfl
theorem i_zip : evI C Φ (.zip a b) env st = kZip (evE C Φ a env st) (evE C Φ b env) := rfl
theorem kSeq_tup {xs : List D} : kSeq (.ok (.tup xs) s) = .ok xs s := rfl
theorem kSeq_lst {xs : List D} : kSeq (.ok (.lst xs) s) = .ok xs s := rfl
theorem kSeq_str {z : Str} : kSeq (.ok (.str z) s) = .ok (z.cps.toList.map fun c => .str ⟨#[c]⟩) s := rfl
theorem kSeq_exc : kSeq (.exc xx s) = .exc xx s := rfl
theorem kRng_ok {k : Int} (h : -(2 ^ 62) ≤ k ∧ k < 2 ^ 62) : kRng (.ok (.int k) s) = .ok (rngD 0 k.toNat) s := if_pos h
theorem kRng2_ok : kRng2 (.ok x s) f = kRng21 x (f s) := rfl
theorem kRng21_ok {i j : Int} (h : (-(2 ^ 62) ≤ i ∧ i < 2 ^ 62) ∧ -(2 ^ 62) ≤ j ∧ j < 2 ^ 62) : kRng21 (.int i) (.ok (.int j) s) = .ok (rngD i (j - i).toNat) s := if_pos h
theorem kEnum_lst {xs : List D} : kEnum (.ok (.lst xs) s) = .ok (enumD 0 xs) s := rfl
theorem kZip_ok : kZip (.ok x s) f = kZip1 x (f s) := rfl
theorem kZip1_lst {xs ys : List D} : kZip1 (.lst xs) (.ok (.lst ys) s) = .ok (zipD xs ys) s := rfl
theorem es_nil : evEs C Φ .nil env st = .ok [] st := rfl
theorem es_cons : evEs C Φ (.cons a es) env st = kCons (evE C Φ a env st) (evEs C Φ es env) := rfl
theorem o_no : evO C Φ .no env st = .ok none st := rfl
theorem o_some : evO C Φ (.some a) env st = kInt (evE C Φ a env st) := rfl
theorem t_val : evT C Φ (.val a) env st = kTru (evE C Φ a env st) := rfl
theorem t_and {t u : T} : evT C Φ (.and t u) env st = kTAnd (evT C Φ t env st) (evT C Φ u env) := rfl
theorem t_or {t u : T} : evT C Φ (.or t u) env st = kTOr (evT C Φ t env st) (evT C Φ u env) := rfl
theorem t_not {t : T} : evT C Φ (.not t) env st = kTNot (evT C Φ t env st) := rfl
theorem tb_map {r : Option Bool} {s : S} : (ofO (r.map D.bl) s).bind (fun x s1 => (match x with | .bl b => R.ok b s1 | _ => R.bad)) = (match r with | some b => .ok b s | none => .bad) := by cases r <;> rfl
theorem t_cmp {op : CO} : evT C Φ (.cmp op a b) env st = kTB (kCmp op (evB C Φ a env st) (evB C Φ b env)) := by
  simp only [evT, kTB, kCmp, evB]
  cases bor a env st (evE C Φ a env st) with
  | ok x s1 =>
    simp only [R.bind_ok]
    cases bor b env s1 (evE C Φ b env s1) with
    | ok y s2 => simp only [R.bind_ok]; exact tb_map.symm
    | exc x s => rfl
    | bad => rfl
  | exc x s => rfl
  | bad => rfl
theorem t_chain {o1 o2 : CO} : evT C Φ (.chain o1 o2 a b c) env st = kTB (kCh o1 o2 (evE C Φ a env st) (evE C Φ b env) (evE C Φ c env)) := by
  simp only [evT, kTB, kCh]
  cases evE C Φ a env st with
  | ok x s1 =>
    simp only [R.bind_ok]
    cases evE C Φ b env s1 with
    | ok y s2 =>
      simp only [R.bind_ok]
      cases cmpD o1 x y with
      | none => rfl
      | some k =>
        cases k with
        | false => rfl
        | true =>
          dsimp only
          cases evE C Φ c env s2 with
          | ok z s3 => simp only [R.bind_ok]; exact tb_map.symm
          | exc x s => rfl
          | bad => rfl
    | exc x s => rfl
    | bad => rfl
  | exc x s => rfl
  | bad => rfl
theorem t_isN : evT C Φ (.isN a) env st = kTB (kIsN (evE C Φ a env st)) := by
  simp only [evT, kTB, kIsN]
  cases evE C Φ a env st with
  | ok x s1 => cases x <;> rfl
  | exc x s => rfl
  | bad => rfl
theorem t_notN : evT C Φ (.notN a) env st = kTB (kNotN (evE C Φ a env st)) := by
  simp only [evT, kTB, kNotN]
  cases evE C Φ a env st with
  | ok x s1 => cases x <;> rfl
  | exc x s => rfl
  | bad => rfl
/-! what they come to -/
theorem kCons_ok {g : S → R (List D)} : kCons (.ok d s) g = kCons1 d (g s) := rfl
theorem kCons_exc {g : S → R (List D)} : kCons (.exc xx s) g = .exc xx s := rfl
theorem kCons1_ok {ds : List D} : kCons1 d (.ok ds s) = .ok (d :: ds) s := rfl
theorem kCons1_exc : kCons1 d (.exc xx s) = .exc xx s := rfl
theorem kTup_ok {ds : List D} : kTup (.ok ds s) = if ds.length ≤ sizeLine then .ok (.tup ds) s else .bad := rfl
theorem kTup_exc : kTup (.exc xx s) = .exc xx s := rfl
theorem kLst_ok {ds : List D} : kLst (.ok ds s) = if ds.length ≤ sizeLine then .ok (.lst ds) s else .bad := rfl
theorem kLst_exc : kLst (.exc xx s) = .exc xx s := rfl
theorem kLstM_ok {ds : List D} : kLstM (.ok ds s) = if ds.length ≤ sizeLine then .ok (.obj s.length) (s ++ [.lst ds]) else .bad := rfl
theorem kCall_ok {g : String} {ds : List D} : kCall Φ g (.ok ds s) = Φ g ds s := rfl
theorem kCall_exc {g : String} : kCall Φ g (.exc xx s) = .exc xx s := rfl
theorem kBin_ok {op : BO} : kBin op (.ok x s) f = kBin1 op x (f s) := rfl
theorem kBin_exc {op : BO} : kBin op (.exc xx s) f = .exc xx s := rfl
theorem kBin1_ok {op : BO} : kBin1 op x (.ok y s) = ofO (binD op (resD s x) (resD s y)) s := rfl
theorem kBin1_exc {op : BO} : kBin1 op x (.exc xx s) = .exc xx s := rfl
theorem kNeg_ok {i : Int} : kNeg (.ok (.int i) s) = .ok (.int (-i)) s := rfl
theorem kNot_ok {k : Bool} : kNot (.ok (.bl k) s) = .ok (.bl !k) s := rfl
theorem kNot_exc : kNot (.exc xx s) = .exc xx s := rfl
theorem kAnd_t : kAnd (.ok (.bl true) s) f = f s := rfl
theorem kAnd_f : kAnd (.ok (.bl false) s) f = .ok (.bl false) s := rfl
theorem kAnd_ok {k : Bool} : kAnd (.ok (.bl k) s) f = if k = true then f s else .ok (.bl false) s := by cases k <;> rfl
theorem kAnd_exc : kAnd (.exc xx s) f = .exc xx s := rfl
theorem kOr_ok {k : Bool} : kOr (.ok (.bl k) s) f = if k = true then .ok (.bl true) s else f s := by cases k <;> rfl
theorem kOr_exc : kOr (.exc xx s) f = .exc xx s := rfl
theorem kCmp_ok {op : CO} : kCmp op (.ok x s) f = kCmp1 op x (f s) := rfl
theorem kCmp_exc {op : CO} : kCmp op (.exc xx s) f = .exc xx s := rfl
theorem kCmp1_ok {op : CO} : kCmp1 op x (.ok y s) = ofO ((cmpD op (resD s x) (resD s y)).map .bl) s := rfl
theorem kCmpC_ok {op : CO} : kCmpC op x (.ok y s) = ofO ((cmpD op x y).map .bl) s := rfl
theorem kCmpC_exc {op : CO} : kCmpC op x (.exc xx s) = .exc xx s := rfl
theorem kCmp1_exc {op : CO} : kCmp1 op x (.exc xx s) = .exc xx s := rfl
theorem kCh_ok {o1 o2 : CO} : kCh o1 o2 (.ok x s) f h = kCh1 o1 o2 x (f s) h := rfl
theorem kCh1_ok {o1 o2 : CO} : kCh1 o1 o2 x (.ok y s) h = kCh2 o2 y h s (cmpD o1 x y) := rfl
theorem kCh2_some {o2 : CO} {k : Bool} : kCh2 o2 y h s (some k) = if k = true then kCmpC o2 y (h s) else .ok (.bl false) s := by cases k <;> rfl
theorem kIf_ok {α : Type} {k : Bool} {f h : S → R α} : kIf (.ok k s) f h = if k = true then f s else h s := rfl
theorem kIf_exc {α : Type} {f h : S → R α} : kIf (.exc xx s) f h = .exc xx s := rfl
theorem kSub_ok : kSub (.ok x s) f = kSub1 x (f s) := rfl
theorem kSub_exc : kSub (.exc xx s) f = .exc xx s := rfl
theorem kSub1_ok : kSub1 x (.ok y s) = ofO (subD s x y) s := rfl
theorem kSub1_exc : kSub1 x (.exc xx s) = .exc xx s := rfl
theorem kSl_ok {f h : S → R (Option Int)} : kSl (.ok x s) f h = kSl1 x (f s) h := rfl
theorem kSl1_ok {l : Option Int} {h : S → R (Option Int)} : kSl1 x (.ok l s) h = kSl2 x l (h s) := rfl
theorem kSl2_ok {l u : Option Int} : kSl2 x l (.ok u s) = ofO (sliceD s x l u) s := rfl
theorem kBi_ok {k : Bi} : kBi k (.ok x s) = ofO (biD s k x) s := rfl
theorem kBi_exc {k : Bi} : kBi k (.exc xx s) = .exc xx s := rfl
theorem kIsi_ok {t : Ty} : kIsi t (.ok x s) = ofO ((isiD x t).map .bl) s := rfl
theorem kTru_ok : kTru (.ok x s) = (match truD s x with | some b => .ok b s | none => .bad) := rfl
theorem kTru_bl {k : Bool} : kTru (.ok (.bl k) s) = .ok k s := rfl
theorem kTru_exc : kTru (.exc xx s) = .exc xx s := rfl
theorem kTAnd_ok {k : Bool} {f : S → R Bool} : kTAnd (.ok k s) f = if k = true then f s else .ok false s := rfl
theorem kTAnd_exc {f : S → R Bool} : kTAnd (.exc xx s) f = .exc xx s := rfl
theorem kTOr_ok {k : Bool} {f : S → R Bool} : kTOr (.ok k s) f = if k = true then .ok true s else f s := rfl
theorem kTOr_exc {f : S → R Bool} : kTOr (.exc xx s) f = .exc xx s := rfl
theorem kTNot_ok {k : Bool} : kTNot (.ok k s) = .ok (!k) s := rfl
theorem kTNot_exc : kTNot (.exc xx s) = .exc xx s := rfl
theorem kTB_ok {k : Bool} : kTB (.ok (.bl k) s) = .ok k s := rfl
theorem kTB_exc : kTB (.exc xx s) = .exc xx s := rfl
theorem kInt_ok {i : Int} : kInt (.ok (.int i) s) = .ok (some i) s := rfl
theorem kIsN_non : kIsN (.ok .non s) = .ok (.bl true) s := rfl
theorem kNotN_non : kNotN (.ok .non s) = .ok (.bl false) s := rfl
theorem vB_var {i : Nat} : evB C Φ (.var i) env st = evE C Φ (.var i) env st := rfl
theorem vB_int {i : Int} : evB C Φ (.int i) env st = evE C Φ (.int i) env st := rfl
theorem vB_str {z : String} : evB C Φ (.str z) env st = evE C Φ (.str z) env st := rfl
theorem vB_bl {k : Bool} : evB C Φ (.bl k) env st = evE C Φ (.bl k) env st := rfl
theorem vB_non  : evB C Φ (.non ) env st = evE C Φ (.non ) env st := rfl
theorem vB_glob {z : String} : evB C Φ (.glob z) env st = evE C Φ (.glob z) env st := rfl
theorem vB_tup {es : Es} : evB C Φ (.tup es) env st = evE C Φ (.tup es) env st := rfl
theorem vB_lst {es : Es} : evB C Φ (.lst es) env st = evE C Φ (.lst es) env st := rfl
theorem vB_dic0  : evB C Φ (.dic0 ) env st = evE C Φ (.dic0 ) env st := rfl
theorem vB_bin {op : BO} {a b : E} : evB C Φ (.bin op a b) env st = evE C Φ (.bin op a b) env st := rfl
theorem vB_neg {a : E} : evB C Φ (.neg a) env st = evE C Φ (.neg a) env st := rfl
theorem vB_not {a : E} : evB C Φ (.not a) env st = evE C Φ (.not a) env st := rfl
theorem vB_and {a b : E} : evB C Φ (.and a b) env st = evE C Φ (.and a b) env st := rfl
theorem vB_or {a b : E} : evB C Φ (.or a b) env st = evE C Φ (.or a b) env st := rfl
theorem vB_cmp {op : CO} {a b : E} : evB C Φ (.cmp op a b) env st = evE C Φ (.cmp op a b) env st := rfl
theorem vB_chain {o1 o2 : CO} {a b c : E} : evB C Φ (.chain o1 o2 a b c) env st = evE C Φ (.chain o1 o2 a b c) env st := rfl
theorem vB_isN {a : E} : evB C Φ (.isN a) env st = evE C Φ (.isN a) env st := rfl
theorem vB_notN {a : E} : evB C Φ (.notN a) env st = evE C Φ (.notN a) env st := rfl
theorem vB_ifx {t : T} {a b : E} : evB C Φ (.ifx t a b) env st = evE C Φ (.ifx t a b) env st := rfl
theorem vB_sub {a b : E} : evB C Φ (.sub a b) env st = evE C Φ (.sub a b) env st := rfl
theorem vB_slice {a : E} {lo hi : Eo} : evB C Φ (.slice a lo hi) env st = evE C Φ (.slice a lo hi) env st := rfl
theorem vB_call {g : String} {es : Es} : evB C Φ (.call g es) env st = evE C Φ (.call g es) env st := rfl
theorem vB_bi {k : Bi} {a : E} : evB C Φ (.bi k a) env st = evE C Φ (.bi k a) env st := rfl
theorem vB_isi {a : E} {t : Ty} : evB C Φ (.isi a t) env st = evE C Φ (.isi a t) env st := rfl
theorem vB_comp {a : E} {i : Nat} {b : E} : evB C Φ (.comp a i b) env st = evE C Φ (.comp a i b) env st := rfl
theorem vB_fmt {a : E} : evB C Φ (.fmt a) env st = evE C Φ (.fmt a) env st := rfl
theorem vB_fstr {es : Es} : evB C Φ (.fstr es) env st = evE C Φ (.fstr es) env st := rfl
theorem vB_join {z : String} {a : E} : evB C Φ (.join z a) env st = evE C Φ (.join z a) env st := rfl
theorem vB_compI {t : Tg} {it : I} {c : To} : evB C Φ (.compI a t it c) env st = evE C Φ (.compI a t it c) env st := rfl
theorem vB_sset : evB C Φ (.sset a) env st = evE C Φ (.sset a) env st := rfl
theorem vB_lset : evB C Φ (.lset a) env st = evE C Φ (.lset a) env st := rfl
theorem vB_allL : evB C Φ (.allL a) env st = evE C Φ (.allL a) env st := rfl
theorem rs_cdic {kvs : List (Str × Int)} : resD s (.cdic kvs) = .cdic kvs := rfl
theorem vB_own {i : Nat} : evB C Φ (.own i) env st = (match env[i]? with | some (.own xs) => .ok (.lst xs) st | _ => .bad) := rfl
theorem rs_int {i : Int} : resD s (.int i) = .int i := rfl
theorem rs_str {z : Str} : resD s (.str z) = .str z := rfl
theorem rs_bl {k : Bool} : resD s (.bl k) = .bl k := rfl
theorem rs_non  : resD s (.non) = .non := rfl
theorem rs_tup {xs : List D} : resD s (.tup xs) = .tup xs := rfl
theorem rs_lst {xs : List D} : resD s (.lst xs) = .lst xs := rfl
theorem rs_dic {kvs : List (Key × D)} : resD s (.dic kvs) = .dic kvs := rfl
theorem rs_scr {ns : List Int} : resD s (.scr ns) = .scr ns := rfl
theorem kFmt_ok : kFmt (.ok x s) = ofO (fmtD x) s := rfl
theorem kJoin_ok {z : String} : kJoin z (.ok x s) = ofO (joinD s (Str.ofString z) x) s := rfl
theorem kJ_ok {acc y : Str} {f : Str → S → R D} : kJ acc f (.ok (.str y) s) = if (acc ++ y).length ≤ sizeLine then f (acc ++ y) s else .bad := rfl
theorem kListM_ok : kListM (.ok x s) = (match itemsD s x with | some xs => .ok (.obj s.length) (s ++ [.lst xs]) | none => .bad) := rfl
theorem ofO_some : ofO (some d) s = .ok d s := rfl
end
/-! ### statements -/
def kS (r : R D) (env : DE) (k : D → S → RS) : RS := r.st env k
def kSIf (r : R Bool) (env : DE) (f h : DE → S → RS) : RS := r.st env fun k s => if k = true then f env s else h env s
def kPar (i j : Nat) (env : DE) (r : R D) (f : S → R D) : RS := r.st env fun x s1 => (f s1).st env fun y s2 => .ok (.nx ((env.set i (.val x)).set j (.val y))) s2
def kPar1 (i j : Nat) (env : DE) (x : D) (r : R D) : RS := r.st env fun y s2 => .ok (.nx ((env.set i (.val x)).set j (.val y))) s2
def kSet (i : Nat) (env : DE) (r : R D) : RS := r.st env fun d s => .ok (.nx (env.set i (.val d))) s
def kRet (env : DE) (r : R D) : RS := r.st env fun d s => .ok (.rt d) s
def kExpr (env : DE) (r : R D) : RS := r.st env fun _ s => .ok (.nx env) s
def kAsg (t : Tg) (env : DE) (r : R D) : RS := r.st env fun d s => (match bindT t d env with
    | some env' => .ok (.nx env') s
    | none => .bad)
def putF (env : DE) (d l k : D) (s3 : S) : RS := match l, k with
    | .obj n, .int k => (match s3[n]? with
      | some (.lst xs) => (match ixN xs.length k with
        | some j => .ok (.nx env) (s3.set n (.lst (xs.set j d)))
        | none => .bad)
      | _ => .bad)
    | _, _ => .bad
def kPut (env : DE) (r : R D) (f h : S → R D) : RS := r.st env fun d s1 => (f s1).st env fun l s2 => (h s2).st env fun k s3 => putF env d l k s3
def kPut1 (env : DE) (d : D) (r : R D) (h : S → R D) : RS := r.st env fun l s2 => (h s2).st env fun k s3 => putF env d l k s3
def kPut2 (env : DE) (d l : D) (r : R D) : RS := r.st env fun k s3 => putF env d l k s3
def kOwn (i : Nat) (env : DE) (r : R (List D)) : RS := r.st env fun ds s => if ds.length ≤ sizeLine then .ok (.nx (env.set i (.own ds))) s else .bad
def kApp (i : Nat) (env : DE) (xs : List D) (r : R D) : RS := r.st env fun d s => if xs.length < sizeLine then .ok (.nx (env.set i (.own (xs ++ [d])))) s else .bad
def addF (i : Nat) (env : DE) (x y : D) (s : S) : RS := match resD s x, resD s y with
    | .lst xs, .lst ys => if xs.length + ys.length ≤ sizeLine then .ok (.nx (env.set i (.own (xs ++ ys)))) s else .bad
    | _, _ => .bad
def kOAdd (i : Nat) (env : DE) (r : R D) (f : S → R D) : RS := r.st env fun x s1 => (f s1).st env fun y s2 => addF i env x y s2
def kOAdd1 (i : Nat) (env : DE) (x : D) (r : R D) : RS := r.st env fun y s2 => addF i env x y s2
def kAppL (env : DE) (r : R D) (f : S → R D) : RS := r.st env fun l s1 => (match l with
    | .obj n => (match s1[n]? with
      | some (.lst _) => (f s1).st env fun d s2 => (match s2[n]? with
        | some (.lst xs) => if xs.length < sizeLine then .ok (.nx env) (s2.set n (.lst (xs ++ [d]))) else .bad
        | _ => .bad)
      | _ => .bad)
    | _ => .bad)
def kFor (env : DE) (f : D → DE → S → RS) (r : R D) : RS := r.st env fun x s1 => (match itemsD [] x with
    | some xs => loopS f xs env s1
    | none => .bad)
def kForR (env : DE) (f : D → DE → S → RS) (r : R D) : RS := r.st env fun x s1 => (match x with
    | .int k => if -(2 ^ 62) ≤ k ∧ k < 2 ^ 62 then loopS f ((List.range k.toNat).map fun (n : Nat) => D.int (n : Int)) env s1 else .bad
    | _ => .bad)
def lst1 (f : DE → S → RS) (o : Option DE) (s : S) : RS := match o with
    | some env' => f env' s
    | none => .bad
def lstep (C : Cn) (Φ : Fe) (t : Tg) (u : Ss) (d : D) (env : DE) (s : S) : RS := lst1 (evSs C Φ u) (bindT t d env) s
def kForI (env : DE) (f : D → DE → S → RS) (r : R (List D)) : RS := r.st env fun xs s1 => loopS f xs env s1
def kExt (i : Nat) (env : DE) (xs : List D) (r : R D) : RS := r.st env fun d s => (match d with
      | .lst ys => if xs.length + ys.length ≤ sizeLine then .ok (.nx (env.set i (.own (xs ++ ys)))) s else .bad
      | _ => .bad)
def kAug (i : Nat) (op : BO) (env : DE) (x : D) (r : R D) : RS := r.st env fun y s => (match augD op x y with
      | some z => .ok (.nx (env.set i (.val z))) s
      | none => .bad)
def kRun (r : RS) : R D := match r with
    | .ok (.nx _) s => .ok .non s
    | .ok (.rt v) s => .ok v s
    | .exc x _ s => .exc x s
    | _ => .bad
def kTry (C : Cn) (c : String) (h : DE → S → RS) (r : RS) : RS := match r with
    | .exc x env' s' => (match C.sub x.cls c with
      | some true => (h env' s').nox
      | some false => .exc x env' s'
      | none => .bad)
    | r => r
section
variable {C : Cn} {Φ : Fe} {env : DE} {st s : S} {a b c : E} {es : Es} {d x y : D} {f h : S → R D} {r : Ss} {xx : XD}
theorem ss_nil : evSs C Φ .nil env st = .ok (.nx env) st := rfl
theorem ss_cons {z : St'} : evSs C Φ (.cons z r) env st = (evS C Φ z env st).sq (evSs C Φ r) := rfl
theorem s_expr : evS C Φ (.expr a) env st = kExpr env (evE C Φ a env st) := rfl
theorem s_set {i : Nat} : evS C Φ (.set i a) env st = kSet i env (evE C Φ a env st) := rfl
theorem s_par {i j : Nat} : evS C Φ (.par i j a b) env st = kPar i j env (evE C Φ a env st) (evE C Φ b env) := rfl
theorem s_asg {t : Tg} : evS C Φ (.asg t a) env st = kAsg t env (evE C Φ a env st) := rfl
theorem s_putL : evS C Φ (.putL a b c) env st = kPut env (evE C Φ c env st) (evE C Φ a env) (evE C Φ b env) := rfl
theorem s_ownNew {i : Nat} : evS C Φ (.ownNew i es) env st = kOwn i env (evEs C Φ es env st) := rfl
theorem s_ownApp {i : Nat} : evS C Φ (.ownApp i a) env st = (match env[i]? with | some (.own xs) => kApp i env xs (evE C Φ a env st) | _ => .bad) := rfl
theorem s_ownAdd {i : Nat} : evS C Φ (.ownAdd i a b) env st = kOAdd i env (evB C Φ a env st) (evB C Φ b env) := rfl
theorem s_appL : evS C Φ (.appL a b) env st = kAppL env (evE C Φ a env st) (evE C Φ b env) := rfl
theorem kOAdd_ok {i : Nat} : kOAdd i env (.ok x s) f = kOAdd1 i env x (f s) := rfl
theorem kOAdd1_ok {i : Nat} : kOAdd1 i env x (.ok y s) = addF i env x y s := rfl
theorem addF_ok {i : Nat} {xs ys : List D} : addF i env (.lst xs) (.lst ys) s = if xs.length + ys.length ≤ sizeLine then .ok (.nx (env.set i (.own (xs ++ ys)))) s else .bad := rfl
theorem s_freeze {i : Nat} : evS C Φ (.freeze i) env st = (match env[i]? with | some (.own xs) => .ok (.nx (env.set i (.val (.lst xs)))) st | _ => .bad) := rfl
theorem s_ret : evS C Φ (.ret a) env st = kRet env (evE C Φ a env st) := rfl
theorem s_retN : evS C Φ .retN env st = .ok (.rt .non) st := rfl
theorem s_ite {t : T} {u v : Ss} : evS C Φ (.ite t u v) env st = kSIf (evT C Φ t env st) env (evSs C Φ u) (evSs C Φ v) := rfl
theorem s_whl {t : T} {u : Ss} : evS C Φ (.whl t u) env st = whileS (evT C Φ t) (evSs C Φ u) wfuel env st := rfl
theorem s_for {t : Tg} {u : Ss} : evS C Φ (.for_ t a u) env st = kFor env (fun d env s => match bindT t d env with | some env' => evSs C Φ u env' s | none => .bad) (evE C Φ a env st) := rfl
theorem s_forN {i : Nat} {u : Ss} : evS C Φ (.for_ (.nm i) a u) env st = kFor env (fun d env s => evSs C Φ u (env.set i (.val d)) s) (evE C Φ a env st) := rfl
theorem s_forR {i : Nat} {u : Ss} : evS C Φ (.forR i a u) env st = kForR env (fun d env s => evSs C Φ u (env.set i (.val d)) s) (evE C Φ a env st) := rfl
theorem s_forI {t : Tg} {it : I} {u : Ss} : evS C Φ (.forI t it u) env st = kForI env (lstep C Φ t u) (evI C Φ it env st) := rfl
theorem s_ownExt {i : Nat} : evS C Φ (.ownExt i a) env st = (match env[i]? with | some (.own xs) => kExt i env xs (evE C Φ a env st) | _ => .bad) := rfl
theorem kForI_ok {f : D → DE → S → RS} {xs : List D} : kForI env f (.ok xs s) = loopS f xs env s := rfl
theorem kForI_exc {f : D → DE → S → RS} : kForI env f (.exc xx s) = .exc xx env s := rfl
theorem lstep_ap {t : Tg} {u : Ss} : lstep C Φ t u d env s = lst1 (evSs C Φ u) (bindT t d env) s := rfl
theorem lst1_some {f : DE → S → RS} {env' : DE} : lst1 f (some env') s = f env' s := rfl
theorem kExt_lst {i : Nat} {xs ys : List D} : kExt i env xs (.ok (.lst ys) s) = if xs.length + ys.length ≤ sizeLine then .ok (.nx (env.set i (.own (xs ++ ys)))) s else .bad := rfl
theorem s_aug {i : Nat} {op : BO} : evS C Φ (.aug i op a) env st = (match env[i]? with | some (.val x) => kAug i op env x (evE C Φ a env st) | _ => .bad) := rfl
theorem kAug_ok {i : Nat} {op : BO} : kAug i op env x (.ok y s) = (match augD op x y with | some z => .ok (.nx (env.set i (.val z))) s | none => .bad) := rfl
theorem s_brk : evS C Φ .brk env st = .ok (.bk env) st := rfl
theorem s_cont : evS C Φ .cont env st = .ok (.ct env) st := rfl
theorem s_pass : evS C Φ .pass env st = .ok (.nx env) st := rfl
theorem s_raise {c : String} : evS C Φ (.raise c .nil) env st = if C.xn c = true then .exc ⟨c, []⟩ env st else .bad := rfl
theorem s_try {u v : Ss} {c : String} {i : Nat} : evS C Φ (.tryx u c i v) env st = (match C.sub c c with | none => .bad | some _ => kTry C c (evSs C (fun _ _ _ => .bad) v) (evSs C Φ u env st)) := rfl
theorem sq_nx {k : DE → S → RS} : (RS.ok (.nx env) s).sq k = k env s := rfl
theorem sq_rt {k : DE → S → RS} : (RS.ok (.rt d) s).sq k = .ok (.rt d) s := rfl
theorem sq_bk {k : DE → S → RS} : (RS.ok (.bk env) s).sq k = .ok (.bk env) s := rfl
theorem sq_ct {k : DE → S → RS} : (RS.ok (.ct env) s).sq k = .ok (.ct env) s := rfl
theorem sq_exc {k : DE → S → RS} : (RS.exc xx env s).sq k = .exc xx env s := rfl
theorem kExpr_ok : kExpr env (.ok d s) = .ok (.nx env) s := rfl
theorem kExpr_exc : kExpr env (.exc xx s) = .exc xx env s := rfl
theorem kSet_ok {i : Nat} : kSet i env (.ok d s) = .ok (.nx (env.set i (.val d))) s := rfl
theorem kSet_exc {i : Nat} : kSet i env (.exc xx s) = .exc xx env s := rfl
theorem kPar_ok {i j : Nat} : kPar i j env (.ok x s) f = kPar1 i j env x (f s) := rfl
theorem kPar_exc {i j : Nat} : kPar i j env (.exc xx s) f = .exc xx env s := rfl
theorem kPar1_ok {i j : Nat} : kPar1 i j env x (.ok y s) = .ok (.nx ((env.set i (.val x)).set j (.val y))) s := rfl
theorem kPar1_exc {i j : Nat} : kPar1 i j env x (.exc xx s) = .exc xx env s := rfl
theorem kAsg_ok {t : Tg} : kAsg t env (.ok d s) = (match bindT t d env with | some env' => .ok (.nx env') s | none => .bad) := rfl
theorem kAsg_exc {t : Tg} : kAsg t env (.exc xx s) = .exc xx env s := rfl
theorem kPut_ok : kPut env (.ok d s) f h = kPut1 env d (f s) h := rfl
theorem kPut1_ok : kPut1 env d (.ok x s) h = kPut2 env d x (h s) := rfl
theorem kPut2_ok : kPut2 env d x (.ok y s) = putF env d x y s := rfl
theorem kOwn_ok {i : Nat} {ds : List D} : kOwn i env (.ok ds s) = if ds.length ≤ sizeLine then .ok (.nx (env.set i (.own ds))) s else .bad := rfl
theorem kApp_ok {i : Nat} {xs : List D} : kApp i env xs (.ok d s) = if xs.length < sizeLine then .ok (.nx (env.set i (.own (xs ++ [d])))) s else .bad := rfl
theorem kRet_ok : kRet env (.ok d s) = .ok (.rt d) s := rfl
theorem kRet_exc : kRet env (.exc xx s) = .exc xx env s := rfl
theorem kSIf_ok {k : Bool} {f h : DE → S → RS} : kSIf (.ok k s) env f h = if k = true then f env s else h env s := rfl
theorem kSIf_exc {f h : DE → S → RS} : kSIf (.exc xx s) env f h = .exc xx env s := rfl
theorem kFor_ok {f : D → DE → S → RS} : kFor env f (.ok x s) = (match itemsD [] x with | some xs => loopS f xs env s | none => .bad) := rfl
theorem kFor_tup {f : D → DE → S → RS} {xs : List D} : kFor env f (.ok (.tup xs) s) = loopS f xs env s := rfl
theorem kFor_lst {f : D → DE → S → RS} {xs : List D} : kFor env f (.ok (.lst xs) s) = loopS f xs env s := rfl
theorem kForR_ok {f : D → DE → S → RS} {k : Int} (hk : -(2 ^ 62) ≤ k ∧ k < 2 ^ 62) : kForR env f (.ok (.int k) s) = loopS f ((List.range k.toNat).map fun (n : Nat) => D.int (n : Int)) env s := by
  show (if _ then _ else _) = _
  rw [if_pos hk]
theorem kRun_nx : kRun (.ok (.nx env) s) = .ok .non s := rfl
theorem kRun_rt : kRun (.ok (.rt d) s) = .ok d s := rfl
theorem kRun_exc : kRun (.exc xx env s) = .exc xx s := rfl
theorem kTry_ok {c : String} {h : DE → S → RS} {fl : Fl} : kTry C c h (.ok fl s) = .ok fl s := rfl
theorem kTry_exc {c : String} {h : DE → S → RS} : kTry C c h (.exc xx env s) = (match C.sub xx.cls c with | some true => (h env s).nox | some false => .exc xx env s | none => .bad) := rfl
theorem nox_ok {fl : Fl} : (RS.ok fl s).nox = .ok fl s := rfl
theorem call_run {t : Tbl} {g : String} {df : Df} {ds : List D} {n : Nat} (ht : t g = some df) (hl : ds.length = df.np) (hv : df.va = false := by rfl) : callN C t (n + 1) g ds st = kRun (evSs C (callN C t n) df.body (ds.map .val ++ List.replicate (df.n - df.np) .no) st) := by
  simp only [callN, ht, hl, hv, Bool.false_eq_true, if_false]
  rw [if_pos ⟨Nat.le_refl _, Nat.le_add_right _ _⟩]
  have : df.dfl.length + df.np - df.np = df.dfl.length := by omega
  rw [this, List.drop_length, List.append_nil]
  simp only [runB, hl, if_true]
  rfl
/-- with defaults -/
theorem call_dfl {t : Tbl} {g : String} {df : Df} {ds : List D} {n : Nat} (ht : t g = some df) (hl : ds.length ≤ df.np) (hl2 : df.np ≤ ds.length + df.dfl.length) (hv : df.va = false := by rfl) :
    callN C t (n + 1) g ds st = kRun (evSs C (callN C t n) df.body ((ds ++ df.dfl.drop (df.dfl.length + ds.length - df.np)).map .val ++ List.replicate (df.n - df.np) .no) st) := by
  simp only [callN, ht, hv, Bool.false_eq_true, if_false]
  rw [if_pos ⟨hl, hl2⟩]
  simp only [runB]
  rw [if_pos (by rw [List.length_append, List.length_drop]; omega)]
  rfl
/-- def f(a, .., *v) -/
theorem call_va {t : Tbl} {g : String} {df : Df} {ds : List D} {n : Nat} (ht : t g = some df) (hv : df.va = true) (hz : ds.length ≤ sizeLine) (hl : (ds.take (df.np - 1) ++ [D.tup (ds.drop (df.np - 1))]).length = df.np) :
    callN C t (n + 1) g ds st = kRun (evSs C (callN C t n) df.body ((ds.take (df.np - 1) ++ [D.tup (ds.drop (df.np - 1))]).map .val ++ List.replicate (df.n - df.np) .no) st) := by
  simp only [callN, ht, hv, if_true]
  rw [if_pos hz]
  simp only [runB, hl, if_true]
  rfl
end
/-! ### operations on written shapes -/
section
variable {i j : Int} {s : S}
theorem b_add : binD .add (.int i) (.int j) = some (.int (i + j)) := rfl
theorem b_sub : binD .sub (.int i) (.int j) = some (.int (i - j)) := rfl
theorem b_mulL (h : i.natAbs < 2 ^ 64) : binD .mul (.int i) (.int j) = some (.int (i * j)) := if_pos (.inl (.inl h))
theorem b_mulR (h : j.natAbs < 2 ^ 64) : binD .mul (.int i) (.int j) = some (.int (i * j)) := if_pos (.inl (.inr h))
theorem b_mulW (h : big i + big j < 1000000) : binD .mul (.int i) (.int j) = some (.int (i * j)) := if_pos (.inr h)
theorem b_fdiv (h : 0 < j) (h2 : big j < 9000) : binD .fdiv (.int i) (.int j) = some (.int (i / j)) := if_pos ⟨h, h2⟩
theorem b_mod (h : 0 < j) : binD .mod (.int i) (.int j) = some (.int (i % j)) := if_pos h
theorem b_pow (h : 0 ≤ j ∧ j ≤ 1000000 ∧ i.natAbs < 2 ^ 64) : binD .pow (.int i) (.int j) = some (.int (i ^ j.toNat)) := if_pos h
theorem b_addT {xs ys : List D} (h : xs.length + ys.length ≤ sizeLine) : binD .add (.tup xs) (.tup ys) = some (.tup (xs ++ ys)) := if_pos h
theorem b_addL {xs ys : List D} (h : xs.length + ys.length ≤ sizeLine) : binD .add (.lst xs) (.lst ys) = some (.lst (xs ++ ys)) := if_pos h
theorem b_rep {xs : List D} {k : Int} (h : 0 ≤ k ∧ k < 2 ^ 63 ∧ xs.length * k.toNat ≤ sizeLine) : binD .mul (.lst xs) (.int k) = some (.lst (List.replicate k.toNat xs).flatten) := if_pos h
theorem c_lt : cmpD .lt (.int i) (.int j) = some (decide (i < j)) := rfl
theorem c_le : cmpD .le (.int i) (.int j) = some (decide (i ≤ j)) := rfl
theorem c_gt : cmpD .gt (.int i) (.int j) = some (decide (j < i)) := rfl
theorem c_ge : cmpD .ge (.int i) (.int j) = some (decide (j ≤ i)) := rfl
theorem eq_ii : eqD (.int i) (.int j) = some (decide (i = j)) := rfl
theorem eq_ss {x y : Str} : eqD (.str x) (.str y) = some (decide (x = y)) := rfl
theorem c_eq {x y : D} : cmpD .eq x y = eqD x y := by
  cases x <;> cases y <;> rfl
theorem c_ne {x y : D} : cmpD .ne x y = (eqD x y).map (!·) := by
  cases x <;> cases y <;> rfl
theorem au_add {i j : Int} : augD .add (.int i) (.int j) = some (.int (i + j)) := rfl
theorem au_sub {i j : Int} : augD .sub (.int i) (.int j) = some (.int (i - j)) := rfl
theorem c_in {x y : D} : cmpD .in_ x y = inD x y := by cases x <;> cases y <;> rfl
theorem c_nin {x y : D} : cmpD .nin x y = (inD x y).map (!·) := by cases x <;> cases y <;> rfl
theorem loop_all {f : D → DE → S → RS} {P : DE → S → Prop} (hb : ∀ x env st, P env st → ∃ env' st', f x env st = .ok (.nx env') st' ∧ P env' st') : ∀ (xs : List D) (env : DE) (st : S), P env st → ∃ env' st', loopS f xs env st = .ok (.nx env') st' ∧ P env' st'
  | [], env, st, h => ⟨env, st, rfl, h⟩
  | x :: xs, env, st, h => by
    obtain ⟨e1, s1, h1, h2⟩ := hb x env st h
    obtain ⟨e2, s2, h3, h4⟩ := loop_all hb xs e1 s1 h2
    exact ⟨e2, s2, by simp only [loopS, h1]; exact h3, h4⟩
theorem abs_if (a : Int) : (if a < 0 then -a else a) = (a.natAbs : Int) := by split <;> omega
theorem compL_const {f : D → S → R D} {d : D} {s : S} : ∀ {xs : List D}, (∀ x ∈ xs, f x s = .ok d s) → compL f xs s = .ok (xs.map fun _ => d) s
  | [], _ => rfl
  | x :: xs, h => by
    have h1 := h x List.mem_cons_self
    have h2 := compL_const (xs := xs) fun y hy => h y (List.mem_cons_of_mem _ hy)
    simp only [compL, h1, h2]
    rfl
theorem kComp_ok {f : D → S → R D} {x : D} {xs ds : List D} {s s2 : S} (h : itemsD [] x = some xs) (h2 : compL f xs s = .ok ds s2) (h3 : ds.length ≤ sizeLine) : kComp f (.ok x s) = .ok (.lst ds) s2 := by
  show (match itemsD [] x with | some xs => _ | none => _) = _
  rw [h]
  dsimp only
  rw [h2]
  exact if_pos h3
theorem k_abs : biD s .abs (.int i) = some (.int (i.natAbs : Int)) := by rw [← abs_if]; rfl
theorem k_int : biD s .int (.int i) = some (.int i) := rfl
theorem k_intB {k : Bool} : biD s .int (.bl k) = some (.int (if k then 1 else 0)) := rfl
theorem k_lenT {xs : List D} : biD s .len (.tup xs) = some (.int xs.length) := rfl
theorem k_lenL {xs : List D} : biD s .len (.lst xs) = some (.int xs.length) := rfl
theorem k_lenS {ns : List Int} : biD s .len (.scr ns) = some (.int ns.length) := by
  show (some (D.int ((ns.map D.int).length : Nat)) : Option D) = _
  rw [List.length_map]
theorem k_str (h : big i < 1920) : biD s .str (.int i) = some (.str (toString i)) := if_pos h
theorem x_tup {xs : List D} {k : Int} : subD s (.tup xs) (.int k) = L2.atI xs k := rfl
theorem x_lst {xs : List D} {k : Int} : subD s (.lst xs) (.int k) = L2.atI xs k := rfl
theorem x_obj {n : Nat} {xs : List D} {k : Int} (h : s[n]? = some (.lst xs)) : subD s (.obj n) (.int k) = L2.atI xs k := by
  simp [subD, itemsD, h]
end
theorem gi0 {α : Type} {x0 : α} {l : List α} : (x0 :: l)[0]? = some x0 := rfl
theorem si0 {α : Type} {x0 z : α} {l : List α} : (x0 :: l).set 0 z = z :: l := rfl
theorem gi1 {α : Type} {x0 x1 : α} {l : List α} : (x0 :: x1 :: l)[1]? = some x1 := rfl
theorem si1 {α : Type} {x0 x1 z : α} {l : List α} : (x0 :: x1 :: l).set 1 z = x0 :: z :: l := rfl
theorem gi2 {α : Type} {x0 x1 x2 : α} {l : List α} : (x0 :: x1 :: x2 :: l)[2]? = some x2 := rfl
theorem si2 {α : Type} {x0 x1 x2 z : α} {l : List α} : (x0 :: x1 :: x2 :: l).set 2 z = x0 :: x1 :: z :: l := rfl
theorem gi3 {α : Type} {x0 x1 x2 x3 : α} {l : List α} : (x0 :: x1 :: x2 :: x3 :: l)[3]? = some x3 := rfl
theorem si3 {α : Type} {x0 x1 x2 x3 z : α} {l : List α} : (x0 :: x1 :: x2 :: x3 :: l).set 3 z = x0 :: x1 :: x2 :: z :: l := rfl
theorem gi4 {α : Type} {x0 x1 x2 x3 x4 : α} {l : List α} : (x0 :: x1 :: x2 :: x3 :: x4 :: l)[4]? = some x4 := rfl
theorem si4 {α : Type} {x0 x1 x2 x3 x4 z : α} {l : List α} : (x0 :: x1 :: x2 :: x3 :: x4 :: l).set 4 z = x0 :: x1 :: x2 :: x3 :: z :: l := rfl
theorem gi5 {α : Type} {x0 x1 x2 x3 x4 x5 : α} {l : List α} : (x0 :: x1 :: x2 :: x3 :: x4 :: x5 :: l)[5]? = some x5 := rfl
theorem si5 {α : Type} {x0 x1 x2 x3 x4 x5 z : α} {l : List α} : (x0 :: x1 :: x2 :: x3 :: x4 :: x5 :: l).set 5 z = x0 :: x1 :: x2 :: x3 :: x4 :: z :: l := rfl
theorem gi6 {α : Type} {x0 x1 x2 x3 x4 x5 x6 : α} {l : List α} : (x0 :: x1 :: x2 :: x3 :: x4 :: x5 :: x6 :: l)[6]? = some x6 := rfl
theorem si6 {α : Type} {x0 x1 x2 x3 x4 x5 x6 z : α} {l : List α} : (x0 :: x1 :: x2 :: x3 :: x4 :: x5 :: x6 :: l).set 6 z = x0 :: x1 :: x2 :: x3 :: x4 :: x5 :: z :: l := rfl
theorem gi7 {α : Type} {x0 x1 x2 x3 x4 x5 x6 x7 : α} {l : List α} : (x0 :: x1 :: x2 :: x3 :: x4 :: x5 :: x6 :: x7 :: l)[7]? = some x7 := rfl
theorem si7 {α : Type} {x0 x1 x2 x3 x4 x5 x6 x7 z : α} {l : List α} : (x0 :: x1 :: x2 :: x3 :: x4 :: x5 :: x6 :: x7 :: l).set 7 z = x0 :: x1 :: x2 :: x3 :: x4 :: x5 :: x6 :: z :: l := rfl
theorem gi8 {α : Type} {x0 x1 x2 x3 x4 x5 x6 x7 x8 : α} {l : List α} : (x0 :: x1 :: x2 :: x3 :: x4 :: x5 :: x6 :: x7 :: x8 :: l)[8]? = some x8 := rfl
theorem si8 {α : Type} {x0 x1 x2 x3 x4 x5 x6 x7 x8 z : α} {l : List α} : (x0 :: x1 :: x2 :: x3 :: x4 :: x5 :: x6 :: x7 :: x8 :: l).set 8 z = x0 :: x1 :: x2 :: x3 :: x4 :: x5 :: x6 :: x7 :: z :: l := rfl
theorem gi9 {α : Type} {x0 x1 x2 x3 x4 x5 x6 x7 x8 x9 : α} {l : List α} : (x0 :: x1 :: x2 :: x3 :: x4 :: x5 :: x6 :: x7 :: x8 :: x9 :: l)[9]? = some x9 := rfl
theorem si9 {α : Type} {x0 x1 x2 x3 x4 x5 x6 x7 x8 x9 z : α} {l : List α} : (x0 :: x1 :: x2 :: x3 :: x4 :: x5 :: x6 :: x7 :: x8 :: x9 :: l).set 9 z = x0 :: x1 :: x2 :: x3 :: x4 :: x5 :: x6 :: x7 :: x8 :: z :: l := rfl
theorem gi10 {α : Type} {x0 x1 x2 x3 x4 x5 x6 x7 x8 x9 x10 : α} {l : List α} : (x0 :: x1 :: x2 :: x3 :: x4 :: x5 :: x6 :: x7 :: x8 :: x9 :: x10 :: l)[10]? = some x10 := rfl
theorem si10 {α : Type} {x0 x1 x2 x3 x4 x5 x6 x7 x8 x9 x10 z : α} {l : List α} : (x0 :: x1 :: x2 :: x3 :: x4 :: x5 :: x6 :: x7 :: x8 :: x9 :: x10 :: l).set 10 z = x0 :: x1 :: x2 :: x3 :: x4 :: x5 :: x6 :: x7 :: x8 :: x9 :: z :: l := rfl
theorem gi11 {α : Type} {x0 x1 x2 x3 x4 x5 x6 x7 x8 x9 x10 x11 : α} {l : List α} : (x0 :: x1 :: x2 :: x3 :: x4 :: x5 :: x6 :: x7 :: x8 :: x9 :: x10 :: x11 :: l)[11]? = some x11 := rfl
theorem si11 {α : Type} {x0 x1 x2 x3 x4 x5 x6 x7 x8 x9 x10 x11 z : α} {l : List α} : (x0 :: x1 :: x2 :: x3 :: x4 :: x5 :: x6 :: x7 :: x8 :: x9 :: x10 :: x11 :: l).set 11 z = x0 :: x1 :: x2 :: x3 :: x4 :: x5 :: x6 :: x7 :: x8 :: x9 :: x10 :: z :: l := rfl
theorem gi12 {α : Type} {x0 x1 x2 x3 x4 x5 x6 x7 x8 x9 x10 x11 x12 : α} {l : List α} : (x0 :: x1 :: x2 :: x3 :: x4 :: x5 :: x6 :: x7 :: x8 :: x9 :: x10 :: x11 :: x12 :: l)[12]? = some x12 := rfl
theorem si12 {α : Type} {x0 x1 x2 x3 x4 x5 x6 x7 x8 x9 x10 x11 x12 z : α} {l : List α} : (x0 :: x1 :: x2 :: x3 :: x4 :: x5 :: x6 :: x7 :: x8 :: x9 :: x10 :: x11 :: x12 :: l).set 12 z = x0 :: x1 :: x2 :: x3 :: x4 :: x5 :: x6 :: x7 :: x8 :: x9 :: x10 :: x11 :: z :: l := rfl
theorem gi13 {α : Type} {x0 x1 x2 x3 x4 x5 x6 x7 x8 x9 x10 x11 x12 x13 : α} {l : List α} : (x0 :: x1 :: x2 :: x3 :: x4 :: x5 :: x6 :: x7 :: x8 :: x9 :: x10 :: x11 :: x12 :: x13 :: l)[13]? = some x13 := rfl
theorem si13 {α : Type} {x0 x1 x2 x3 x4 x5 x6 x7 x8 x9 x10 x11 x12 x13 z : α} {l : List α} : (x0 :: x1 :: x2 :: x3 :: x4 :: x5 :: x6 :: x7 :: x8 :: x9 :: x10 :: x11 :: x12 :: x13 :: l).set 13 z = x0 :: x1 :: x2 :: x3 :: x4 :: x5 :: x6 :: x7 :: x8 :: x9 :: x10 :: x11 :: x12 :: z :: l := rfl
theorem gi14 {α : Type} {x0 x1 x2 x3 x4 x5 x6 x7 x8 x9 x10 x11 x12 x13 x14 : α} {l : List α} : (x0 :: x1 :: x2 :: x3 :: x4 :: x5 :: x6 :: x7 :: x8 :: x9 :: x10 :: x11 :: x12 :: x13 :: x14 :: l)[14]? = some x14 := rfl
theorem si14 {α : Type} {x0 x1 x2 x3 x4 x5 x6 x7 x8 x9 x10 x11 x12 x13 x14 z : α} {l : List α} : (x0 :: x1 :: x2 :: x3 :: x4 :: x5 :: x6 :: x7 :: x8 :: x9 :: x10 :: x11 :: x12 :: x13 :: x14 :: l).set 14 z = x0 :: x1 :: x2 :: x3 :: x4 :: x5 :: x6 :: x7 :: x8 :: x9 :: x10 :: x11 :: x12 :: x13 :: z :: l := rfl
theorem gi15 {α : Type} {x0 x1 x2 x3 x4 x5 x6 x7 x8 x9 x10 x11 x12 x13 x14 x15 : α} {l : List α} : (x0 :: x1 :: x2 :: x3 :: x4 :: x5 :: x6 :: x7 :: x8 :: x9 :: x10 :: x11 :: x12 :: x13 :: x14 :: x15 :: l)[15]? = some x15 := rfl
theorem si15 {α : Type} {x0 x1 x2 x3 x4 x5 x6 x7 x8 x9 x10 x11 x12 x13 x14 x15 z : α} {l : List α} : (x0 :: x1 :: x2 :: x3 :: x4 :: x5 :: x6 :: x7 :: x8 :: x9 :: x10 :: x11 :: x12 :: x13 :: x14 :: x15 :: l).set 15 z = x0 :: x1 :: x2 :: x3 :: x4 :: x5 :: x6 :: x7 :: x8 :: x9 :: x10 :: x11 :: x12 :: x13 :: x14 :: z :: l := rfl
theorem ri0 {α : Type} {z : α} : List.replicate 0 z = [] := rfl
theorem ri1 {α : Type} {z : α} : List.replicate 1 z = [z] := rfl
theorem ri2 {α : Type} {z : α} : List.replicate 2 z = [z, z] := rfl
theorem ri3 {α : Type} {z : α} : List.replicate 3 z = [z, z, z] := rfl
theorem ri4 {α : Type} {z : α} : List.replicate 4 z = [z, z, z, z] := rfl
theorem ri5 {α : Type} {z : α} : List.replicate 5 z = [z, z, z, z, z] := rfl
theorem ri6 {α : Type} {z : α} : List.replicate 6 z = [z, z, z, z, z, z] := rfl
theorem ri7 {α : Type} {z : α} : List.replicate 7 z = [z, z, z, z, z, z, z] := rfl
theorem ri8 {α : Type} {z : α} : List.replicate 8 z = [z, z, z, z, z, z, z, z] := rfl
theorem ri9 {α : Type} {z : α} : List.replicate 9 z = [z, z, z, z, z, z, z, z, z] := rfl
theorem ri10 {α : Type} {z : α} : List.replicate 10 z = [z, z, z, z, z, z, z, z, z, z] := rfl
theorem ri11 {α : Type} {z : α} : List.replicate 11 z = [z, z, z, z, z, z, z, z, z, z, z] := rfl
theorem ai0 {x0 : D} {l : List D} : L2.atI (x0 :: l) 0 = some x0 := by
  unfold L2.atI L2.ixN
  rw [if_pos (by decide), if_pos (by simp only [List.length_cons]; omega)]
  rfl
theorem ai1 {x0 x1 : D} {l : List D} : L2.atI (x0 :: x1 :: l) 1 = some x1 := by
  unfold L2.atI L2.ixN
  rw [if_pos (by decide), if_pos (by simp only [List.length_cons]; omega)]
  rfl
theorem ai2 {x0 x1 x2 : D} {l : List D} : L2.atI (x0 :: x1 :: x2 :: l) 2 = some x2 := by
  unfold L2.atI L2.ixN
  rw [if_pos (by decide), if_pos (by simp only [List.length_cons]; omega)]
  rfl
theorem ai3 {x0 x1 x2 x3 : D} {l : List D} : L2.atI (x0 :: x1 :: x2 :: x3 :: l) 3 = some x3 := by
  unfold L2.atI L2.ixN
  rw [if_pos (by decide), if_pos (by simp only [List.length_cons]; omega)]
  rfl
theorem ai4 {x0 x1 x2 x3 x4 : D} {l : List D} : L2.atI (x0 :: x1 :: x2 :: x3 :: x4 :: l) 4 = some x4 := by
  unfold L2.atI L2.ixN
  rw [if_pos (by decide), if_pos (by simp only [List.length_cons]; omega)]
  rfl
theorem ai5 {x0 x1 x2 x3 x4 x5 : D} {l : List D} : L2.atI (x0 :: x1 :: x2 :: x3 :: x4 :: x5 :: l) 5 = some x5 := by
  unfold L2.atI L2.ixN
  rw [if_pos (by decide), if_pos (by simp only [List.length_cons]; omega)]
  rfl
theorem ai6 {x0 x1 x2 x3 x4 x5 x6 : D} {l : List D} : L2.atI (x0 :: x1 :: x2 :: x3 :: x4 :: x5 :: x6 :: l) 6 = some x6 := by
  unfold L2.atI L2.ixN
  rw [if_pos (by decide), if_pos (by simp only [List.length_cons]; omega)]
  rfl
theorem ai7 {x0 x1 x2 x3 x4 x5 x6 x7 : D} {l : List D} : L2.atI (x0 :: x1 :: x2 :: x3 :: x4 :: x5 :: x6 :: x7 :: l) 7 = some x7 := by
  unfold L2.atI L2.ixN
  rw [if_pos (by decide), if_pos (by simp only [List.length_cons]; omega)]
  rfl
theorem ai8 {x0 x1 x2 x3 x4 x5 x6 x7 x8 : D} {l : List D} : L2.atI (x0 :: x1 :: x2 :: x3 :: x4 :: x5 :: x6 :: x7 :: x8 :: l) 8 = some x8 := by
  unfold L2.atI L2.ixN
  rw [if_pos (by decide), if_pos (by simp only [List.length_cons]; omega)]
  rfl
theorem ai9 {x0 x1 x2 x3 x4 x5 x6 x7 x8 x9 : D} {l : List D} : L2.atI (x0 :: x1 :: x2 :: x3 :: x4 :: x5 :: x6 :: x7 :: x8 :: x9 :: l) 9 = some x9 := by
  unfold L2.atI L2.ixN
  rw [if_pos (by decide), if_pos (by simp only [List.length_cons]; omega)]
  rfl
theorem x_obj0 {xs : List D} {rest : S} {k : Int} : subD (.lst xs :: rest) (.obj 0) (.int k) = L2.atI xs k := rfl
theorem put0 {env : DE} {d x0 : D} {l : List D} {rest : S} : putF env d (.obj 0) (.int 0) (.lst (x0 :: l) :: rest) = .ok (.nx env) (.lst (d :: l) :: rest) := by
  simp [putF, L2.ixN]
theorem put1 {env : DE} {d x0 x1 : D} {l : List D} {rest : S} : putF env d (.obj 0) (.int 1) (.lst (x0 :: x1 :: l) :: rest) = .ok (.nx env) (.lst (x0 :: d :: l) :: rest) := by
  have : (1 : Int) < (l.length : Int) + 1 + 1 := by omega
  simp [putF, L2.ixN, this]
theorem put2 {env : DE} {d x0 x1 x2 : D} {l : List D} {rest : S} : putF env d (.obj 0) (.int 2) (.lst (x0 :: x1 :: x2 :: l) :: rest) = .ok (.nx env) (.lst (x0 :: x1 :: d :: l) :: rest) := by
  have : (2 : Int) < (l.length : Int) + 1 + 1 + 1 := by omega
  simp [putF, L2.ixN, this]
theorem ic0 : ((0 : Nat) : Int) = 0 := rfl
theorem ic1 : ((1 : Nat) : Int) = 1 := rfl
theorem ic2 : ((2 : Nat) : Int) = 2 := rfl
theorem ic3 : ((3 : Nat) : Int) = 3 := rfl
theorem ic4 : ((4 : Nat) : Int) = 4 := rfl
theorem ic5 : ((5 : Nat) : Int) = 5 := rfl
theorem ic6 : ((6 : Nat) : Int) = 6 := rfl
theorem ic7 : ((7 : Nat) : Int) = 7 := rfl
theorem ic8 : ((8 : Nat) : Int) = 8 := rfl
theorem ic9 : ((9 : Nat) : Int) = 9 := rfl
theorem ic10 : ((10 : Nat) : Int) = 10 := rfl
theorem ic11 : ((11 : Nat) : Int) = 11 := rfl
theorem ic12 : ((12 : Nat) : Int) = 12 := rfl
theorem ic13 : ((13 : Nat) : Int) = 13 := rfl
theorem ic14 : ((14 : Nat) : Int) = 14 := rfl
theorem ic15 : ((15 : Nat) : Int) = 15 := rfl
theorem ic16 : ((16 : Nat) : Int) = 16 := rfl
theorem ic17 : ((17 : Nat) : Int) = 17 := rfl
theorem ic18 : ((18 : Nat) : Int) = 18 := rfl
theorem ic19 : ((19 : Nat) : Int) = 19 := rfl
theorem ic20 : ((20 : Nat) : Int) = 20 := rfl
theorem ic21 : ((21 : Nat) : Int) = 21 := rfl
theorem ic22 : ((22 : Nat) : Int) = 22 := rfl
theorem ic23 : ((23 : Nat) : Int) = 23 := rfl
end PV

set_option Elab.async false
set_option linter.all false
set_option maxRecDepth 100000
set_option maxHeartbeats 2000000
set_option exponentiation.threshold 30000
namespace PV
open PySem PySem.Spec PyProof.Rows L2
/-! ### the module's constants, as data -/
mutual
def conB (K : PySem.W.Frag) : D → Value → Bool
  | .non, .none => true
  | .bl b, .bool c => decide (c = b)
  | .int i, .int j _ => decide (j = i)
  | .str x, .str y _ => decide (y = x)
  | .tup ds, .ref a => (match K.lookup a with
    | some ⟨.type c, _, .seq its _, _⟩ => decide (c = "tuple") && (decide (its.size ≤ sizeLine) && consB K ds its.toList)
    | _ => false)
  | _, _ => false
def consB (K : PySem.W.Frag) : List D → List Value → Bool
  | [], [] => true
  | d :: ds, v :: vs => conB K d v && consB K ds vs
  | _, _ => false
end
mutual
theorem conB_ok {F : Fx} : ∀ {d : D} {u : Value}, conB F.K d u = true → ∃ v, RelV v u ∧ ∀ g H, Rep F g H d v
  | .non, .none, _ => ⟨.non, rfl, fun _ _ => .non⟩
  | .bl b, .bool c, h => by
    have e : c = b := of_decide_eq_true h
    subst e
    exact ⟨.bl c, rfl, fun _ _ => .bl _⟩
  | .int i, .int j k, h => by
    have e : j = i := of_decide_eq_true h
    subst e
    exact ⟨.int j, ⟨_, rfl⟩, fun _ _ => .int _⟩
  | .str x, .str y k, h => by
    have e : y = x := of_decide_eq_true h
    subst e
    exact ⟨.str y, ⟨_, rfl⟩, fun _ _ => .str _⟩
  | .tup ds, .ref a, h => by
    unfold conB at h
    split at h
    · rename_i c od its k osl q
      obtain ⟨h1, h2⟩ := He.ba h
      obtain ⟨h3, h4⟩ := He.ba h2
      obtain ⟨vs, r1, r2⟩ := consB_ok h4
      exact ⟨.ref a, rfl, fun g H => .tup (.inr ⟨_, its, k, q, congrArg Value.type (of_decide_eq_true h1), rfl, of_decide_eq_true h3, r1⟩) (r2 g H)⟩
    · cases h
theorem consB_ok {F : Fx} : ∀ {ds : List D} {us : List Value}, consB F.K ds us = true → ∃ vs, Vals vs us ∧ ∀ g H, Reps F g H ds vs
  | [], [], _ => ⟨[], .nil, fun _ _ => .nil⟩
  | d :: ds, u :: us, h => by
    unfold consB at h
    obtain ⟨h1, h2⟩ := He.ba h
    obtain ⟨v, r1, r2⟩ := conB_ok h1
    obtain ⟨vs, r3, r4⟩ := consB_ok h2
    exact ⟨v :: vs, .cons r1 r3, fun g H => .cons (r2 g H) (r4 g H)⟩
end
def cstB (K : PySem.W.Frag) (cs : List (String × D)) : Bool := cs.all fun p => match PySem.W.nsIn K mainGlobals (Str.ofString p.1) with
  | some (some u) => conB K p.2 u
  | _ => false
/-! dicts of the module with text keys and whole numbers -/
abbrev Tb : Type := String × List (Str × Int)
def tabB (K : PySem.W.Frag) (ts : List Tb) : Bool := ts.all fun t => decide (PySem.W.nsIn K mainGlobals (Str.ofString t.1) = some (some (.ref (He.ga K (Str.ofString t.1))))) && t.2.all fun q => match PySem.W.nsIn K (He.ga K (Str.ofString t.1)) q.1 with
  | some (some (.int j _)) => decide (j = q.2)
  | _ => false
def tabO (K : PySem.W.Frag) (ts : List Tb) : List (Option (List (Option (Str × Int)))) := ts.map fun t => He.dicW K (He.ga K (Str.ofString t.1))
def tabV (ts : List Tb) (w : World) : List (Option (List (Option (Str × Int)))) := ts.map fun t => some (He.keysIn w.params (t.2.map (·.1)))
/-! properties of the classes: class, name, the getter -/
structure Pd where
  cls : Str
  name : Str
  qual : Str
  params : Arguments
  body : List Stmt
  scope : Scope
/-- the property's object, its getter -/
def pa (K : PySem.W.Frag) (d : Pd) : Addr := He.ma K (He.ga K d.cls) d.name
def pg (K : PySem.W.Frag) (d : Pd) : Addr := match PySem.W.recIn K (pa K d) "property" with
  | some (.ref g :: _) => g
  | _ => 0
def Pd.val (d : Pd) : He.FnW := some (d.name, d.qual, d.params, .stmts d.body, d.scope, mainGlobals, [], builtinsNs)
def fnA (K : PySem.W.Frag) (a : Addr) : He.FnW := match K.lookup a with
  | some ⟨_, _, .func fd, _⟩ => some (fd.name, fd.qualname, fd.params, fd.body, fd.scope, fd.globals, fd.closure, fd.builtins)
  | _ => none
def Pd.ok (K : PySem.W.Frag) (d : Pd) : Bool := He.eqO (PySem.W.findIn K (.ref (He.ga K d.cls)) d.name) (some (some (.ref (pa K d)))) && (He.eqO (PySem.W.specialIn K (.ref (pa K d)) "__get__") (some (some (.builtin "property.__get__"))) &&
  (decide (PySem.W.takesIn K (.ref (pa K d)) = some true) && ((match PySem.W.recIn K (pa K d) "property" with
    | some (.ref _ :: _) => true
    | _ => false) && (PySem.W.keepIn K (.ref (pg K d)) && (match K.lookup (pg K d) with
    | some ⟨_, _, .func fd, _⟩ => PySem.W.codeIn K fd.code d.qual && (He.dflB K fd.defaults [] && He.kwdB K fd.kwdefaults [])
    | _ => false)))))
theorem Pd.prop {K : PySem.W.Frag} {d : Pd} (c : d.ok K = true) : PropOf K (He.ga K d.cls) d.name (pa K d) (pg K d) := by
  obtain ⟨c1, c⟩ := He.ba c
  obtain ⟨c2, c⟩ := He.ba c
  obtain ⟨c3, c⟩ := He.ba c
  obtain ⟨c4, c⟩ := He.ba c
  refine ⟨He.eqO_ok c1, He.eqO_ok c2, of_decide_eq_true c3, ?_⟩
  unfold pg
  split at c4
  · rename_i g rest q
    rw [q]
    exact ⟨rest, rfl⟩
  · cases c4
theorem Pd.funD {K : PySem.W.Frag} {d : Pd} (e : fnA K (pg K d) = d.val) (c : d.ok K = true) : ∃ fd, FunD K d.name d.qual d.params d.body d.scope [] [] (pg K d) fd := by
  obtain ⟨_, c⟩ := He.ba c
  obtain ⟨_, c⟩ := He.ba c
  obtain ⟨_, c⟩ := He.ba c
  obtain ⟨_, c⟩ := He.ba c
  obtain ⟨kp, c2⟩ := He.ba c
  unfold fnA at e
  cases q : K.lookup (pg K d) with
  | none =>
    rw [q] at c2
    cases c2
  | some o =>
    obtain ⟨oc, od, dt, osl⟩ := o
    rw [q] at c2 e
    cases dt with
    | func fd =>
      obtain ⟨n1, n2, n3, n4, n5, n6, n7, n8, n9, n10, n11, n12, n13, n14, n15⟩ := fd
      have e2 : (some (n1, n2, n3, n4, n5, n6, n7, n15) : He.FnW) = some (d.name, d.qual, d.params, .stmts d.body, d.scope, mainGlobals, [], builtinsNs) := e
      simp only [Option.some.injEq, Prod.mk.injEq] at e2
      obtain ⟨h1, h2, h3, h4, h5, h6, h7, h8⟩ := e2
      subst h1 h2 h3 h4 h5 h6 h7 h8
      have c3 : (PySem.W.codeIn K n13 d.qual && (He.dflB K n8 [] && He.kwdB K n9 [])) = true := c2
      obtain ⟨k1, k2⟩ := He.ba c3
      obtain ⟨k3, k4⟩ := He.ba k2
      exact ⟨_, ⟨oc, od, n8, n9, n10, n11, n12, n13, n14, osl, rfl, q, k1, He.dflB_ok k3, He.kwdB_ok k4⟩, kp⟩
    | _ => cases c2
abbrev AlC : Type := He.AlD × Bool × List (Option (List (Option (Str × Int)))) × List He.FnW
def obsK (fa : List He.Fa) (fn : List He.DefD) (cs : List (String × D)) (ts : List Tb) (pd : List Pd) (K : PySem.W.Frag) : AlC := (He.obsD fa fn K, cstB K cs && (tabB K ts && pd.all fun d => d.ok K), tabO K ts, pd.map fun d => fnA K (pg K d))
def obsC (n : Nat) (fa : List He.Fa) (fn : List He.DefD) (cs : List (String × D)) (ts : List Tb) (pd : List Pd) (g : Addr → Option Obj) : AlC := obsK fa fn cs ts pd (He.frG g (He.asD g n))
/-- what the module's top has left -/
structure SaysC (fa : List He.Fa) (fn : List He.DefD) (cs : List (String × D)) (ts : List Tb) (pd : List Pd) (w : World) (K : PySem.W.Frag) : Prop where
  d : He.SaysD fa fn K
  c : cstB K cs = true
  t : tabB K ts = true
  p : (pd.all fun d => d.ok K) = true
  o : tabO K ts = tabV ts w
  q : pd.map (fun d => fnA K (pg K d)) = pd.map Pd.val
def hookC (n : Nat) (fa : List He.Fa) (fn : List He.DefD) (cs : List (String × D)) (ts : List Tb) (pd : List Pd) : PySem.W.Hook where
  α := AlC
  obs := fun s => obsC n fa fn cs ts pd s.heap.get?
  val := fun w => (He.valD fn, true, tabV ts w, pd.map Pd.val)
  says := fun w h => ∃ K : PySem.W.Frag, K.In h ∧ SaysC fa fn cs ts pd w K
  of := fun _ _ e => ⟨_, He.frG_in, congrArg Prod.fst e, (He.ba (congrArg (fun z : AlC => z.2.1) e)).1, (He.ba (He.ba (congrArg (fun z : AlC => z.2.1) e)).2).1, (He.ba (He.ba (congrArg (fun z : AlC => z.2.1) e)).2).2, congrArg (fun z : AlC => z.2.2.1) e, congrArg (fun z : AlC => z.2.2.2) e⟩
  keeps := fun _ _ _ ⟨K, hK, c⟩ k => ⟨K, PySem.W.Frag.In.keeps hK k, c⟩
theorem obsC_eq {n : Nat} {fa : List He.Fa} {fn : List He.DefD} {cs : List (String × D)} {ts : List Tb} {pd : List Pd} {g : Addr → Option Obj} {s : Shared} (h : ∀ a, g a = s.heap.get? a) : obsC n fa fn cs ts pd g = (hookC n fa fn cs ts pd).obs s := by
  have e : g = s.heap.get? := funext h
  rw [e] <;> rfl
theorem SaysC.prop {fa : List He.Fa} {fn : List He.DefD} {cs : List (String × D)} {ts : List Tb} {pd : List Pd} {w : World} {K : PySem.W.Frag} (c : SaysC fa fn cs ts pd w K) (i : Nat) {d : Pd} (h : pd[i]? = some d := by rfl) :
    PropOf K (He.ga K d.cls) d.name (pa K d) (pg K d) ∧ ∃ fd, FunD K d.name d.qual d.params d.body d.scope [] [] (pg K d) fd := by
  have ok := List.all_eq_true.mp c.p d (List.mem_of_getElem? h)
  have e2 : (pd.map fun d => fnA K (pg K d))[i]? = (pd.map Pd.val)[i]? := by rw [c.q]
  rw [List.getElem?_map, List.getElem?_map, h] at e2
  exact ⟨Pd.prop ok, Pd.funD (Option.some.inj e2) ok⟩
/-- a constant by name -/
def conOf (cs : List (String × D)) (ts : List Tb) (x : String) : Option D := match cs.lookup x with
  | some d => some d
  | none => (ts.lookup x).map .cdic
theorem look_mem {α : Type} {x : String} {d : α} : ∀ {cs : List (String × α)}, cs.lookup x = some d → (x, d) ∈ cs
  | (y, e) :: cs, h => by
    rw [List.lookup_cons] at h
    split at h
    · rename_i hb
      have : x = y := by simpa using hb
      subst this
      cases h
      exact List.mem_cons_self
    · exact List.mem_cons_of_mem _ (look_mem h)
theorem look_memS {z : Str} {i : Int} : ∀ {kvs : List (Str × Int)}, kvs.lookup z = some i → (z, i) ∈ kvs
  | (y, e) :: cs, h => by
    rw [List.lookup_cons] at h
    split at h
    · rename_i hb
      have : z = y := eq_of_beq hb
      subst this
      cases h
      exact List.mem_cons_self
    · exact List.mem_cons_of_mem _ (look_memS h)
theorem look_noneS {z : Str} : ∀ {kvs : List (Str × Int)}, kvs.lookup z = none → z ∉ kvs.map (·.1)
  | [], _ => by simp
  | (y, e) :: cs, h => by
    rw [List.lookup_cons] at h
    split at h
    · cases h
    · rename_i hb
      rw [List.map_cons, List.mem_cons, not_or]
      exact ⟨fun e => by rw [e] at hb; simp at hb, look_noneS h⟩
theorem keys_out {P : Params} {z : Str} : ∀ {es : List DictEntry} {ks : List Str}, es.map He.keyOf = He.keysIn P ks → z ∉ ks → es.find? (·.key.isStr z) = none ∧ es.any (·.refKey) = false
  | [], _, _, _ => ⟨rfl, rfl⟩
  | e :: es, [], h, _ => by cases h
  | e :: es, k :: ks, h, hz => by
    have h1 : He.keyOf e :: es.map He.keyOf = some (k, PyData.keyHash P k) :: He.keysIn P ks := h
    injection h1 with h2 h3
    rw [List.mem_cons, not_or] at hz
    obtain ⟨i1, i2⟩ := keys_out h3 hz.2
    unfold He.keyOf at h2
    split at h2
    · rename_i x t q
      have e1 : x = k := (Prod.mk.inj (Option.some.inj h2)).1
      subst e1
      refine ⟨?_, ?_⟩
      · rw [List.find?_cons, q]
        have : (Value.str x t).isStr z = false := by
          show (x == z) = false
          rw [beq_eq_false_iff_ne]
          exact fun e => hz.1 e.symm
        rw [this]
        exact i1
      · rw [List.any_cons, i2]
        simp [DictEntry.refKey, q]
    · cases h2
theorem cd_ok {F : Fx} {t : Tb} {ts : List Tb} (ht : t ∈ ts) (c : tabB F.K ts = true) (o : tabO F.K ts = tabV ts F.w) : PySem.W.nsIn F.K mainGlobals (Str.ofString t.1) = some (some (.ref (He.ga F.K (Str.ofString t.1)))) ∧ CdAt F (He.ga F.K (Str.ofString t.1)) t.2 := by
  have c1 := List.all_eq_true.mp c t ht
  rw [Bool.and_eq_true, decide_eq_true_eq] at c1
  obtain ⟨i, hi, e⟩ := List.mem_iff_getElem.mp ht
  have e2 : (tabO F.K ts)[i]? = (tabV ts F.w)[i]? := by rw [o]
  unfold tabO tabV at e2
  rw [List.getElem?_map, List.getElem?_map, List.getElem?_eq_getElem hi, e] at e2
  have e3 : He.dicW F.K (He.ga F.K (Str.ofString t.1)) = some (He.keysIn F.w.params (t.2.map (·.1))) := Option.some.inj e2
  refine ⟨c1.1, He.dicW_ok e3, fun z => ⟨fun i hz => ?_, fun hz => ?_⟩⟩
  · have c2 := List.all_eq_true.mp c1.2 _ (look_memS hz)
    dsimp only at c2
    split at c2
    · rename_i j tk q
      have : j = i := of_decide_eq_true c2
      subst this
      exact ⟨tk, q⟩
    · cases c2
  · have hz' := look_noneS hz
    unfold He.dicW at e3
    split at e3
    · rename_i cc es n sl q
      split at e3
      · have e4 := Option.some.inj e3
        obtain ⟨k1, k2⟩ := keys_out e4 hz'
        unfold PySem.W.nsIn
        rw [q]
        dsimp only
        rw [k1, k2]
        rfl
      · cases e3
    · cases e3
theorem con_ok {F : Fx} {mg : Str → Option Value} {h : Heap} {fa : List He.Fa} {fn : List He.DefD} {cs : List (String × D)} {ts : List Tb} {pd : List Pd} (X : F.K.In h) (G : h.Ns mainGlobals mg) (c : SaysC fa fn cs ts pd F.w F.K) {x : String} {d : D} (hx : conOf cs ts x = some d) :
    ∃ u v, mg (Str.ofString x) = some u ∧ RelV v u ∧ ∀ g H, Rep F g H d v := by
  unfold conOf at hx
  split at hx
  · rename_i d' hd
    cases hx
    have := List.all_eq_true.mp c.c _ (look_mem hd)
    dsimp only at this
    split at this
    · rename_i u q
      obtain ⟨v, r1, r2⟩ := conB_ok (F := F) this
      exact ⟨u, v, PySem.W.mg_of X G q, r1, r2⟩
    · cases this
  · cases ht : ts.lookup x with
    | none => rw [ht] at hx; cases hx
    | some kvs =>
      rw [ht] at hx
      cases hx
      obtain ⟨h1, h2⟩ := cd_ok (look_mem ht) c.t c.o
      exact ⟨_, .ref _, PySem.W.mg_of X G h1, rfl, fun g H => .cdic h2⟩
/-! ### the classes' facts, by their names -/
def fldL : List String := ["held", "rest", "factors", "last", "strict", "paper", "fixed", "moving", "course", "outcome", "conditions", "spot", "pieces", "at", "steps", "first", "own_rule", "figures", "chooser", "signs", "faults", "hairline", "offset", "notes", "seen", "walked", "last_reading", "left", "gathered", "where", "forks", "states", "is_busy"]
theorem fld_mem {f : String} (h : isFld f = true) : f ∈ fldL := List.contains_iff_mem.mp h
def clsF (cl : List String) : List He.Fa := (cl.map fun c => He.Fa.cls (Str.ofString c)) ++ cl.flatMap fun c => fldL.map fun f => He.Fa.noat (Str.ofString c) (Str.ofString f)
theorem says_fact {fa : List He.Fa} {fn : List He.DefD} {K : PySem.W.Frag} (c : He.SaysD fa fn K) {f : He.Fa} (h : f ∈ fa) : f.ok K = true := by
  obtain ⟨i, hi, e⟩ := List.mem_iff_getElem.mp h
  exact c.fact i (f := f) (by rw [List.getElem?_eq_getElem hi, e])
theorem clsF_cls {fa : List He.Fa} {cl : List String} {fn : List He.DefD} {K : PySem.W.Frag} (c : He.SaysD (fa ++ clsF cl) fn K) {x : String} (hx : x ∈ cl) : Cls K (He.ga K (Str.ofString x)) :=
  He.cls_ok (says_fact c (List.mem_append_right _ (List.mem_append_left _ (List.mem_map.mpr ⟨x, hx, rfl⟩))))
theorem clsF_no {fa : List He.Fa} {cl : List String} {fn : List He.DefD} {K : PySem.W.Frag} (c : He.SaysD (fa ++ clsF cl) fn K) {x f : String} (hx : x ∈ cl) (hf : isFld f = true) : NoAttr K (He.ga K (Str.ofString x)) (Str.ofString f) :=
  He.noat_ok (says_fact c (List.mem_append_right _ (List.mem_append_right _ (List.mem_flatMap.mpr ⟨x, hx, List.mem_map.mpr ⟨f, fld_mem hf, rfl⟩⟩))))
end PV

set_option Elab.async false
set_option linter.all false
set_option maxRecDepth 100000
set_option maxHeartbeats 1000000
set_option exponentiation.threshold 30000
/-! what a run comes to, from the front -/
namespace PV
open PySem PySem.Spec PyProof.Rows L2
/-- a value comes, and Q holds of it -/
def W (r : R D) (Q : D → S → Prop) : Prop := ∃ d s, r = .ok d s ∧ Q d s
/-- a block: goes on with N, or returns with T -/
def B (r : RS) (N : DE → S → Prop) (T : D → S → Prop) : Prop := (∃ env s, r = .ok (.nx env) s ∧ N env s) ∨ ∃ d s, r = .ok (.rt d) s ∧ T d s
section
variable {C : Cn} {t : Tbl} {N N' : DE → S → Prop} {T T' Q Q' : D → S → Prop} {d : D} {s st : S} {env : DE} {r : RS}
theorem W.ok (h : Q d s) : W (.ok d s) Q := ⟨d, s, rfl, h⟩
theorem W.mono {r : R D} (h : W r Q) (q : ∀ d s, Q d s → Q' d s) : W r Q' := by
  obtain ⟨d, s, e, z⟩ := h
  exact ⟨d, s, e, q d s z⟩
theorem B.nx (h : N env s) : B (.ok (.nx env) s) N T := .inl ⟨env, s, rfl, h⟩
theorem B.rt (h : T d s) : B (.ok (.rt d) s) N T := .inr ⟨d, s, rfl, h⟩
theorem B.mono (h : B r N T) (h1 : ∀ e s, N e s → N' e s) (h2 : ∀ d s, T d s → T' d s) : B r N' T' := by
  rcases h with ⟨e, s, z, q⟩ | ⟨d, s, z, q⟩
  · exact .inl ⟨e, s, z, h1 _ _ q⟩
  · exact .inr ⟨d, s, z, h2 _ _ q⟩
theorem B.sq {k : DE → S → RS} (h : B r (fun e s => B (k e s) N T) T) : B (r.sq k) N T := by
  rcases h with ⟨e, s, z, q⟩ | ⟨d, s, z, q⟩
  · rw [z]; exact q
  · rw [z]; exact .inr ⟨d, s, rfl, q⟩
theorem W_kRun (h : B r (fun _ s => Q .non s) Q) : W (kRun r) Q := by
  rcases h with ⟨e, s, z, q⟩ | ⟨d, s, z, q⟩
  · rw [z]; exact ⟨_, _, rfl, q⟩
  · rw [z]; exact ⟨_, _, rfl, q⟩
/-- a def's call: its body -/
theorem W_run {g : String} {df : Df} {ds : List D} {n : Nat} (ht : t g = some df) (hl : ds.length = df.np) (h : B (evSs C (callN C t n) df.body (ds.map .val ++ List.replicate (df.n - df.np) .no) st) (fun _ s => Q .non s) Q) (hv : df.va = false := by rfl) :
    W (callN C t (n + 1) g ds st) Q := by
  rw [call_run ht hl hv]
  exact W_kRun h
/-- a loop by what holds of the items left, the slots, the state -/
theorem B_loop {f : D → DE → S → RS} {T : D → S → Prop} (I : List D → DE → S → Prop) (hs : ∀ x xs env st, I (x :: xs) env st → B (f x env st) (I xs) T) :
    ∀ {xs : List D} {env : DE} {st : S}, I xs env st → B (loopS f xs env st) (I []) T
  | [], env, st, h => .inl ⟨env, st, rfl, h⟩
  | x :: xs, env, st, h => by
    rcases hs x xs env st h with ⟨e, s, z, q⟩ | ⟨d, s, z, q⟩
    · have := B_loop I hs q
      unfold loopS
      rw [z]
      exact this
    · unfold loopS
      rw [z]
      exact .inr ⟨d, s, rfl, q⟩
theorem B_for {f : D → DE → S → RS} {k : DE → S → RS} {xs : List D} (I : List D → DE → S → Prop) (h0 : I xs env st) (hs : ∀ x xs env st, I (x :: xs) env st → B (f x env st) (I xs) T) (he : ∀ env st, I [] env st → B (k env st) N T) :
    B ((loopS f xs env st).sq k) N T := B.sq ((B_loop I hs h0).mono he fun _ _ h => h)
theorem sq_assoc {k1 k2 : DE → S → RS} : (r.sq k1).sq k2 = r.sq fun e s => (k1 e s).sq k2 := by
  cases r with
  | ok f s => cases f <;> rfl
  | exc x e s => rfl
  | bad => rfl
/-- what is to hold between two statements -/
theorem B_cut {k : DE → S → RS} (I : DE → S → Prop) (h1 : B r I T) (h2 : ∀ env s, I env s → B (k env s) N T) : B (r.sq k) N T := B.sq (h1.mono h2 fun _ _ h => h)
/-- .. over range(k) -/
theorem B_forR {f : D → DE → S → RS} {k : DE → S → RS} {m : Int} (hm : m < 2 ^ 62) (I : Nat → DE → S → Prop) (h0 : I 0 env st) (hs : ∀ i env st, i < m.toNat → I i env st → B (f (.int i) env st) (I (i + 1)) T)
    (he : ∀ env st, I m.toNat env st → B (k env st) N T) (h0' : 0 ≤ m) : B ((kForR env f (.ok (.int m) st)).sq k) N T := by
  rw [kForR_ok ⟨by omega, hm⟩]
  refine B_for (fun xs env st => ∃ j, j ≤ m.toNat ∧ xs = ((List.range m.toNat).map fun (n : Nat) => D.int (n : Int)).drop j ∧ I j env st) ⟨0, Nat.zero_le _, rfl, h0⟩ ?_ ?_
  · rintro x xs env st ⟨j, hj, e, h⟩
    by_cases hl : j < m.toNat
    · rw [List.drop_eq_getElem_cons (by simpa using hl)] at e
      simp only [List.getElem_map, List.getElem_range, List.cons.injEq] at e
      obtain ⟨rfl, rfl⟩ := e
      exact (hs j env st hl h).mono (fun e s q => ⟨j + 1, hl, rfl, q⟩) fun _ _ q => q
    · rw [List.drop_eq_nil_of_le (by simp; omega)] at e
      cases e
  · rintro env st ⟨j, hj, e, h⟩
    by_cases hl : j < m.toNat
    · rw [List.drop_eq_getElem_cons (by simpa using hl)] at e
      cases e
    · have : j = m.toNat := by omega
      subst this
      exact he env st h
def appF (env : DE) (n : Nat) (d : D) (o : Option O) (s : S) : RS := match o with
  | some (.lst xs) => if xs.length < sizeLine then .ok (.nx env) (s.set n (.lst (xs ++ [d]))) else .bad
  | _ => .bad
def kAppL1 (env : DE) (n : Nat) (o : Option O) (r : R D) : RS := match o with
  | some (.lst _) => r.st env fun d s2 => appF env n d s2[n]? s2
  | _ => .bad
theorem kAppL_obj {n : Nat} {f : S → R D} : kAppL env (.ok (.obj n) s) f = kAppL1 env n s[n]? (f s) := rfl
theorem kAppL1_ok {n : Nat} {xs : List D} : kAppL1 env n (some (.lst xs)) (.ok d s) = appF env n d s[n]? s := rfl
theorem appF_ok {n : Nat} {xs : List D} : appF env n d (some (.lst xs)) s = if xs.length < sizeLine then .ok (.nx env) (s.set n (.lst (xs ++ [d]))) else .bad := rfl
theorem rs_obj {n : Nat} {xs : List D} (h : s[n]? = some (.lst xs)) : resD s (.obj n) = .lst xs := by
  unfold resD
  simp only [h]
theorem is_non_int : isiD .non .int = some false := rfl
theorem is_non_bool : isiD .non .bool = some false := rfl
theorem is_non_str : isiD .non .str = some false := rfl
theorem is_non_tuple : isiD .non .tuple = some false := rfl
theorem is_non_list : isiD .non .list = some false := rfl
theorem is_non_dict : isiD .non .dict = some false := rfl
theorem is_bl_int {b : Bool} : isiD (.bl b) .int = some true := rfl
theorem is_bl_bool {b : Bool} : isiD (.bl b) .bool = some true := rfl
theorem is_bl_str {b : Bool} : isiD (.bl b) .str = some false := rfl
theorem is_bl_tuple {b : Bool} : isiD (.bl b) .tuple = some false := rfl
theorem is_bl_list {b : Bool} : isiD (.bl b) .list = some false := rfl
theorem is_bl_dict {b : Bool} : isiD (.bl b) .dict = some false := rfl
theorem is_int_int {i : Int} : isiD (.int i) .int = some true := rfl
theorem is_int_bool {i : Int} : isiD (.int i) .bool = some false := rfl
theorem is_int_str {i : Int} : isiD (.int i) .str = some false := rfl
theorem is_int_tuple {i : Int} : isiD (.int i) .tuple = some false := rfl
theorem is_int_list {i : Int} : isiD (.int i) .list = some false := rfl
theorem is_int_dict {i : Int} : isiD (.int i) .dict = some false := rfl
theorem is_str_int {z : Str} : isiD (.str z) .int = some false := rfl
theorem is_str_bool {z : Str} : isiD (.str z) .bool = some false := rfl
theorem is_str_str {z : Str} : isiD (.str z) .str = some true := rfl
theorem is_str_tuple {z : Str} : isiD (.str z) .tuple = some false := rfl
theorem is_str_list {z : Str} : isiD (.str z) .list = some false := rfl
theorem is_str_dict {z : Str} : isiD (.str z) .dict = some false := rfl
theorem is_tup_int {xs : List D} : isiD (.tup xs) .int = some false := rfl
theorem is_tup_bool {xs : List D} : isiD (.tup xs) .bool = some false := rfl
theorem is_tup_str {xs : List D} : isiD (.tup xs) .str = some false := rfl
theorem is_tup_tuple {xs : List D} : isiD (.tup xs) .tuple = some true := rfl
theorem is_tup_list {xs : List D} : isiD (.tup xs) .list = some false := rfl
theorem is_tup_dict {xs : List D} : isiD (.tup xs) .dict = some false := rfl
theorem is_lst_int {xs : List D} : isiD (.lst xs) .int = some false := rfl
theorem is_lst_bool {xs : List D} : isiD (.lst xs) .bool = some false := rfl
theorem is_lst_str {xs : List D} : isiD (.lst xs) .str = some false := rfl
theorem is_lst_tuple {xs : List D} : isiD (.lst xs) .tuple = some false := rfl
theorem is_lst_list {xs : List D} : isiD (.lst xs) .list = some true := rfl
theorem is_lst_dict {xs : List D} : isiD (.lst xs) .dict = some false := rfl
theorem is_dic_int {xs : List (Key × D)} : isiD (.dic xs) .int = some false := rfl
theorem is_dic_bool {xs : List (Key × D)} : isiD (.dic xs) .bool = some false := rfl
theorem is_dic_str {xs : List (Key × D)} : isiD (.dic xs) .str = some false := rfl
theorem is_dic_tuple {xs : List (Key × D)} : isiD (.dic xs) .tuple = some false := rfl
theorem is_dic_list {xs : List (Key × D)} : isiD (.dic xs) .list = some false := rfl
theorem is_dic_dict {xs : List (Key × D)} : isiD (.dic xs) .dict = some true := rfl
theorem it_lst {s : S} {xs : List D} : itemsD s (.lst xs) = some xs := rfl
theorem it_tup {s : S} {xs : List D} : itemsD s (.tup xs) = some xs := rfl
theorem atI_mem {xs : List D} {k : Int} (h0 : 0 ≤ k) (h1 : k < xs.length) : ∃ d, d ∈ xs ∧ L2.atI xs k = some d := by
  obtain ⟨j, rfl⟩ := Int.eq_ofNat_of_zero_le h0
  have hj : j < xs.length := by omega
  exact ⟨xs[j], List.getElem_mem hj, atI_nat (List.getElem?_eq_getElem hj)⟩
theorem sw_line_slide : (Str.ofString "line" = Str.ofString "slide") = False := eq_false (by decide +kernel)
theorem sw_line_read : (Str.ofString "line" = Str.ofString "read") = False := eq_false (by decide +kernel)
theorem sw_line_try : (Str.ofString "line" = Str.ofString "try") = False := eq_false (by decide +kernel)
theorem sw_line_left : (Str.ofString "line" = Str.ofString "left") = False := eq_false (by decide +kernel)
theorem sw_line_right : (Str.ofString "line" = Str.ofString "right") = False := eq_false (by decide +kernel)
theorem sw_slide_line : (Str.ofString "slide" = Str.ofString "line") = False := eq_false (by decide +kernel)
theorem sw_slide_read : (Str.ofString "slide" = Str.ofString "read") = False := eq_false (by decide +kernel)
theorem sw_slide_try : (Str.ofString "slide" = Str.ofString "try") = False := eq_false (by decide +kernel)
theorem sw_slide_left : (Str.ofString "slide" = Str.ofString "left") = False := eq_false (by decide +kernel)
theorem sw_slide_right : (Str.ofString "slide" = Str.ofString "right") = False := eq_false (by decide +kernel)
theorem sw_read_line : (Str.ofString "read" = Str.ofString "line") = False := eq_false (by decide +kernel)
theorem sw_read_slide : (Str.ofString "read" = Str.ofString "slide") = False := eq_false (by decide +kernel)
theorem sw_read_try : (Str.ofString "read" = Str.ofString "try") = False := eq_false (by decide +kernel)
theorem sw_read_left : (Str.ofString "read" = Str.ofString "left") = False := eq_false (by decide +kernel)
theorem sw_read_right : (Str.ofString "read" = Str.ofString "right") = False := eq_false (by decide +kernel)
theorem sw_try_line : (Str.ofString "try" = Str.ofString "line") = False := eq_false (by decide +kernel)
theorem sw_try_slide : (Str.ofString "try" = Str.ofString "slide") = False := eq_false (by decide +kernel)
theorem sw_try_read : (Str.ofString "try" = Str.ofString "read") = False := eq_false (by decide +kernel)
theorem sw_try_left : (Str.ofString "try" = Str.ofString "left") = False := eq_false (by decide +kernel)
theorem sw_try_right : (Str.ofString "try" = Str.ofString "right") = False := eq_false (by decide +kernel)
theorem sw_left_line : (Str.ofString "left" = Str.ofString "line") = False := eq_false (by decide +kernel)
theorem sw_left_slide : (Str.ofString "left" = Str.ofString "slide") = False := eq_false (by decide +kernel)
theorem sw_left_read : (Str.ofString "left" = Str.ofString "read") = False := eq_false (by decide +kernel)
theorem sw_left_try : (Str.ofString "left" = Str.ofString "try") = False := eq_false (by decide +kernel)
theorem sw_left_right : (Str.ofString "left" = Str.ofString "right") = False := eq_false (by decide +kernel)
theorem sw_right_line : (Str.ofString "right" = Str.ofString "line") = False := eq_false (by decide +kernel)
theorem sw_right_slide : (Str.ofString "right" = Str.ofString "slide") = False := eq_false (by decide +kernel)
theorem sw_right_read : (Str.ofString "right" = Str.ofString "read") = False := eq_false (by decide +kernel)
theorem sw_right_try : (Str.ofString "right" = Str.ofString "try") = False := eq_false (by decide +kernel)
theorem sw_right_left : (Str.ofString "right" = Str.ofString "left") = False := eq_false (by decide +kernel)
/-! ### instances -/
def kFld (f : String) (r : R D) : R D := r.bind fun x s1 => (match x with
    | .ins _ fs => ofO (fs.lookup f) s1
    | _ => .bad)
def kPrp1 (Φ : Fe) (x : D) (s : S) (o : Option String) : R D := match o with
    | some q => (Φ q [x] s).nox
    | none => .bad
def kPrp (C : Cn) (Φ : Fe) (p : String) (r : R D) : R D := r.bind fun x s1 => (match x with
    | .ins c _ => kPrp1 Φ x s1 (C.mky c p)
    | _ => .bad)
def kMth2 (Φ : Fe) (x : D) (q : String) (r : R (List D)) : R D := r.bind fun ds s2 => Φ q (x :: ds) s2
def kMth1 (Φ : Fe) (x : D) (f : S → R (List D)) (s : S) (o : Option String) : R D := match o with
    | some q => kMth2 Φ x q (f s)
    | none => .bad
def kMth (C : Cn) (Φ : Fe) (m : String) (f : S → R (List D)) (r : R D) : R D := r.bind fun x s1 => (match x with
    | .ins c _ => kMth1 Φ x f s1 (C.mky c m)
    | _ => .bad)
theorem e_fld {Φ : Fe} {a : E} {f : String} : evE C Φ (.fld a f) env st = kFld f (evE C Φ a env st) := rfl
theorem e_prop {Φ : Fe} {a : E} {p : String} : evE C Φ (.prop a p) env st = kPrp C Φ p (evE C Φ a env st) := rfl
theorem e_mcall {Φ : Fe} {a : E} {m : String} {es : Es} : evE C Φ (.mcall a m es) env st = kMth C Φ m (evEs C Φ es env) (evE C Φ a env st) := rfl
theorem kFld_ok {f : String} {c : String} {fs : List (String × D)} : kFld f (.ok (.ins c fs) s) = ofO (fs.lookup f) s := rfl
theorem kPrp_ok {Φ : Fe} {p c : String} {fs : List (String × D)} : kPrp C Φ p (.ok (.ins c fs) s) = kPrp1 Φ (.ins c fs) s (C.mky c p) := rfl
theorem kPrp1_some {Φ : Fe} {x : D} {q : String} : kPrp1 Φ x s (some q) = (Φ q [x] s).nox := rfl
theorem kMth_ok {Φ : Fe} {m c : String} {fs : List (String × D)} {f : S → R (List D)} : kMth C Φ m f (.ok (.ins c fs) s) = kMth1 Φ (.ins c fs) f s (C.mky c m) := rfl
theorem kMth1_some {Φ : Fe} {x : D} {q : String} {f : S → R (List D)} : kMth1 Φ x f s (some q) = kMth2 Φ x q (f s) := rfl
theorem kMth2_ok {Φ : Fe} {x : D} {q : String} {ds : List D} : kMth2 Φ x q (.ok ds s) = Φ q (x :: ds) s := rfl
theorem rnox_ok {α : Type} {a : α} : (R.ok a s).nox = .ok a s := rfl
theorem vB_fld {Φ : Fe} {a : E} {f : String} : evB C Φ (.fld a f) env st = evE C Φ (.fld a f) env st := rfl
theorem vB_prop {Φ : Fe} {a : E} {f : String} : evB C Φ (.prop a f) env st = evE C Φ (.prop a f) env st := rfl
theorem vB_mcall {Φ : Fe} {a : E} {f : String} {es : Es} : evB C Φ (.mcall a f es) env st = evE C Φ (.mcall a f es) env st := rfl
def setFF (i : Nat) (f : String) (d : D) (env : DE) (o : Option Sl) (s : S) : RS := match o with
    | some (.self c fs) => if fs.length < 900 then .ok (.nx (env.set i (.self c (putD f d fs)))) s else .bad
    | _ => .bad
def kSetF (i : Nat) (f : String) (env : DE) (r : R D) : RS := r.st env fun d s => setFF i f d env env[i]? s
theorem s_setF {Φ : Fe} {a : E} {i : Nat} {f : String} : evS C Φ (.setF i f a) env st = kSetF i f env (evE C Φ a env st) := rfl
theorem kSetF_ok {i : Nat} {f : String} : kSetF i f env (.ok d s) = setFF i f d env env[i]? s := rfl
theorem setFF_self {i : Nat} {f c : String} {fs : List (String × D)} : setFF i f d env (some (.self c fs)) s = if fs.length < 900 then .ok (.nx (env.set i (.self c (putD f d fs)))) s else .bad := rfl
theorem putD_nil {f : String} : putD f d [] = [(f, d)] := rfl
/-- a class's call: its __init__ -/
theorem W_ctor {g : String} {df : Df} {ds : List D} {n : Nat} (ht : t g = none) (hc : C.ctor g = some df) (hl : ds.length + 1 = df.np) (h : B (evSs C (callN C t n) df.body (.self g [] :: (ds.map .val ++ List.replicate (df.n - df.np) .no)) st) (fun e s => ∃ c fs, e[0]? = some (.self c fs) ∧ Q (.ins c fs) s) fun _ _ => False) :
    W (callN C t (n + 1) g ds st) Q := by
  simp only [callN, ht, hc]
  rw [if_pos (by omega), show df.dfl.drop (df.dfl.length + (ds.length + 1) - df.np) = [] from List.drop_eq_nil_of_le (by omega), List.append_nil]
  unfold runI
  rw [if_pos hl]
  rcases h with ⟨e, s, z, c, fs, q1, q2⟩ | ⟨d, s, z, q⟩
  · rw [z]
    dsimp only
    rw [q1]
    exact ⟨_, _, rfl, q2⟩
  · exact q.elim
end
end PV

set_option Elab.async false
set_option linter.all false
set_option maxRecDepth 100000
set_option maxHeartbeats 1000000
set_option exponentiation.threshold 30000
/-! further steps -/
namespace PV
open PySem PySem.Spec PyProof.Rows L2
section
variable {C : Cn} {Φ : Fe} {env : DE} {st s : S} {a : E} {d : D}
theorem s_forT {ts : Tgs} {u : Ss} : evS C Φ (.for_ (.tup ts) a u) env st = kFor env (lstep C Φ (.tup ts) u) (evE C Φ a env st) := rfl
theorem setFF_0 {i : Nat} {f c : String} : setFF i f d env (some (.self c [])) s = .ok (.nx (env.set i (.self c [(f, d)]))) s := rfl
theorem setFF_1 {i : Nat} {f c : String} {p1 : String × D} : setFF i f d env (some (.self c [p1])) s = .ok (.nx (env.set i (.self c (putD f d [p1])))) s := rfl
theorem setFF_2 {i : Nat} {f c : String} {p1 p2 : String × D} : setFF i f d env (some (.self c [p1, p2])) s = .ok (.nx (env.set i (.self c (putD f d [p1, p2])))) s := rfl
theorem setFF_3 {i : Nat} {f c : String} {p1 p2 p3 : String × D} : setFF i f d env (some (.self c [p1, p2, p3])) s = .ok (.nx (env.set i (.self c (putD f d [p1, p2, p3])))) s := rfl
end
end PV

set_option Elab.async false
set_option linter.all false
set_option maxRecDepth 100000
set_option maxHeartbeats 1000000
set_option exponentiation.threshold 30000
namespace PV
open PySem PySem.Spec PyProof.Rows L2
local macro_rules | `(tactic| walk_at "pv") => `(tactic| simp only [e_var, e_int, e_str, e_bl, e_non, e_glob, e_tup, e_lst, e_lstM, e_dic0, e_bin, e_neg, e_not, e_and, e_or, e_cmp, e_chain, e_isN, e_notN, e_ifx, e_sub, e_slice, e_call, e_bi, e_isi, e_comp, es_nil, es_cons, o_no, o_some, t_val, t_and, t_or, t_not, t_cmp, t_chain, t_isN, t_notN, kCons_ok, kCons_exc, kCons1_ok, kCons1_exc, kTup_ok, kTup_exc, kLst_ok, kLst_exc, kLstM_ok, kCall_ok, kCall_exc, kBin_ok, kBin_exc, kBin1_ok, kBin1_exc, kNeg_ok, kNot_ok, kNot_exc, kAnd_ok, kAnd_exc, kOr_ok, kOr_exc, kCmp_ok, kCmp_exc, kCmp1_ok, kCmp1_exc, kCh_ok, kCh1_ok, kCh2_some, kIf_ok, kIf_exc, kSub_ok, kSub_exc, kSub1_ok, kSub1_exc, kSl_ok, kSl1_ok, kSl2_ok, kBi_ok, kBi_exc, kIsi_ok, kTru_bl, kTru_exc, kTAnd_ok, kTAnd_exc, kTOr_ok, kTOr_exc, kTNot_ok, kTNot_exc, kTB_ok, kTB_exc, kInt_ok, kIsN_non, kNotN_non, ofO_some, ss_nil, ss_cons, s_expr, s_set, s_par, s_asg, s_putL, s_ownNew, s_ownApp, s_freeze, s_ret, s_retN, s_ite, s_whl, s_forN, s_forR, s_brk, s_cont, s_pass, s_raise, s_try, sq_nx, sq_rt, sq_bk, sq_ct, sq_exc, kExpr_ok, kExpr_exc, kSet_ok, kSet_exc, kPar_ok, kPar_exc, kPar1_ok, kPar1_exc, kAsg_ok, kAsg_exc, kPut_ok, kPut1_ok, kPut2_ok, kOwn_ok, kApp_ok, kRet_ok, kRet_exc, kSIf_ok, kSIf_exc, kFor_tup, kFor_lst, kRun_nx, kRun_rt, kRun_exc, kTry_ok, kTry_exc, nox_ok, eq_ii, eq_ss, si0, si1, si2, si3, si4, si5, si6, si7, si8, si9, si10, si11, si12, si13, si14, si15, b_add, b_sub, c_lt, c_le, c_gt, c_ge, eq_ii, eq_ss, c_eq, c_ne, k_abs, k_int, k_intB, k_lenT, k_lenL, k_lenS, x_tup, x_lst, gi0, si0, gi1, si1, gi2, si2, gi3, si3, gi4, si4, gi5, si5, gi6, si6, gi7, si7, gi8, si8, gi9, si9, gi10, si10, gi11, si11, gi12, si12, gi13, si13, gi14, si14, gi15, si15, ri0, ri1, ri2, ri3, ri4, ri5, ri6, ri7, ri8, ri9, ri10, ri11, ai0, ai1, ai2, ai3, ai4, ai5, ai6, ai7, ai8, ai9, List.map_cons, List.map_nil, List.cons_append, List.nil_append, List.append_nil, Option.map_some, R.bind_ok, Bool.not_true, Bool.not_false, if_true, if_false, Bool.false_eq_true, decide_true, decide_false, Nat.reduceSub, bindT, bindTs, List.length_cons, List.length_nil, sizeLine_eq, Nat.reduceAdd, Nat.reduceLeDiff, Nat.zero_add, decide_eq_true_eq, x_obj0, put0, put1, put2, ic0, ic1, ic2, ic3, ic4, ic5, ic6, ic7, ic8, ic9, ic10, ic11, ic12, ic13, ic14, ic15, ic16, ic17, ic18, ic19, ic20, ic21, ic22, ic23, Int.reduceEq, Int.reduceLT, Int.reduceLE, Int.reduceNeg, vB_var, vB_int, vB_str, vB_bl, vB_non, vB_glob, vB_tup, vB_lst, vB_dic0, vB_bin, vB_neg, vB_not, vB_and, vB_or, vB_cmp, vB_chain, vB_isN, vB_notN, vB_ifx, vB_sub, vB_slice, vB_call, vB_bi, vB_isi, vB_comp, vB_fmt, vB_fstr, vB_join, vB_own, rs_int, rs_str, rs_bl, rs_non, rs_tup, rs_lst, rs_dic, rs_scr, kFmt_ok, kJoin_ok, kJ_ok, kListM_ok, e_listM, e_fmt, e_fstr, e_join, j_nil, j_cons, kCmpC_ok, kCmpC_exc, s_ownAdd, s_appL, kOAdd_ok, kOAdd1_ok, addF_ok, sw_line_slide, sw_line_read, sw_line_try, sw_line_left, sw_line_right, sw_slide_line, sw_slide_read, sw_slide_try, sw_slide_left, sw_slide_right, sw_read_line, sw_read_slide, sw_read_try, sw_read_left, sw_read_right, sw_try_line, sw_try_slide, sw_try_read, sw_try_left, sw_try_right, sw_left_line, sw_left_slide, sw_left_read, sw_left_try, sw_left_right, sw_right_line, sw_right_slide, sw_right_read, sw_right_try, sw_right_left, it_lst, it_tup, kAppL_obj, kAppL1_ok, appF_ok, e_compI, cstep_ap, cst1_some, kCC_ok, kSome_ok, c_no, c_some, kCompI_ok, kCompE_ok, e_sset, e_lset, e_allL, i_seq, i_rng, i_rng2, i_enum, i_zip, kSeq_tup, kSeq_lst, kSeq_str, kSeq_exc, kRng2_ok, kEnum_lst, kZip_ok, kZip1_lst, vB_compI, vB_sset, vB_lset, vB_allL, rs_cdic, s_forI, s_ownExt, kForI_ok, kForI_exc, lstep_ap, lst1_some, kExt_lst, c_in, c_nin, s_aug, kAug_ok, au_add, au_sub, is_non_int, is_non_bool, is_non_str, is_non_tuple, is_non_list, is_non_dict, is_bl_int, is_bl_bool, is_bl_str, is_bl_tuple, is_bl_list, is_bl_dict, is_int_int, is_int_bool, is_int_str, is_int_tuple, is_int_list, is_int_dict, is_str_int, is_str_bool, is_str_str, is_str_tuple, is_str_list, is_str_dict, is_tup_int, is_tup_bool, is_tup_str, is_tup_tuple, is_tup_list, is_tup_dict, is_lst_int, is_lst_bool, is_lst_str, is_lst_tuple, is_lst_list, is_lst_dict, is_dic_int, is_dic_bool, is_dic_str, is_dic_tuple, is_dic_list, is_dic_dict, e_fld, e_prop, e_mcall, kFld_ok, kPrp_ok, kPrp1_some, kMth_ok, kMth1_some, kMth2_ok, rnox_ok, vB_fld, vB_prop, vB_mcall, s_setF, kSetF_ok, setFF_self, putD_nil])
local macro_rules | `(tactic| walk_at "pvh") => `(tactic| simp only [e_var, e_int, e_str, e_bl, e_non, e_glob, e_tup, e_lst, e_lstM, e_dic0, e_bin, e_neg, e_not, e_and, e_or, e_cmp, e_chain, e_isN, e_notN, e_ifx, e_sub, e_slice, e_call, e_bi, e_isi, e_comp, es_nil, es_cons, o_no, o_some, t_val, t_and, t_or, t_not, t_cmp, t_chain, t_isN, t_notN, kCons_ok, kCons_exc, kCons1_ok, kCons1_exc, kTup_ok, kTup_exc, kLst_ok, kLst_exc, kLstM_ok, kCall_ok, kCall_exc, kBin_ok, kBin_exc, kBin1_ok, kBin1_exc, kNeg_ok, kNot_ok, kNot_exc, kAnd_ok, kAnd_exc, kOr_ok, kOr_exc, kCmp_ok, kCmp_exc, kCmp1_ok, kCmp1_exc, kCh_ok, kCh1_ok, kCh2_some, kIf_ok, kIf_exc, kSub_ok, kSub_exc, kSub1_ok, kSub1_exc, kSl_ok, kSl1_ok, kSl2_ok, kBi_ok, kBi_exc, kIsi_ok, kTru_bl, kTru_exc, kTAnd_ok, kTAnd_exc, kTOr_ok, kTOr_exc, kTNot_ok, kTNot_exc, kTB_ok, kTB_exc, kInt_ok, kIsN_non, kNotN_non, ofO_some, ss_nil, ss_cons, s_expr, s_set, s_par, s_asg, s_putL, s_ownNew, s_ownApp, s_freeze, s_ret, s_retN, s_ite, s_whl, s_forN, s_forR, s_brk, s_cont, s_pass, s_raise, s_try, sq_nx, sq_rt, sq_bk, sq_ct, sq_exc, kExpr_ok, kExpr_exc, kSet_ok, kSet_exc, kPar_ok, kPar_exc, kPar1_ok, kPar1_exc, kAsg_ok, kAsg_exc, kPut_ok, kPut1_ok, kPut2_ok, kOwn_ok, kApp_ok, kRet_ok, kRet_exc, kSIf_ok, kSIf_exc, kFor_tup, kFor_lst, kRun_nx, kRun_rt, kRun_exc, kTry_ok, kTry_exc, nox_ok, eq_ii, eq_ss, si0, si1, si2, si3, si4, si5, si6, si7, si8, si9, si10, si11, si12, si13, si14, si15, b_add, b_sub, c_lt, c_le, c_gt, c_ge, eq_ii, eq_ss, c_eq, c_ne, k_abs, k_int, k_intB, k_lenT, k_lenL, k_lenS, x_tup, x_lst, gi0, si0, gi1, si1, gi2, si2, gi3, si3, gi4, si4, gi5, si5, gi6, si6, gi7, si7, gi8, si8, gi9, si9, gi10, si10, gi11, si11, gi12, si12, gi13, si13, gi14, si14, gi15, si15, ri0, ri1, ri2, ri3, ri4, ri5, ri6, ri7, ri8, ri9, ri10, ri11, ai0, ai1, ai2, ai3, ai4, ai5, ai6, ai7, ai8, ai9, List.map_cons, List.map_nil, List.cons_append, List.nil_append, List.append_nil, Option.map_some, R.bind_ok, Bool.not_true, Bool.not_false, if_true, if_false, Bool.false_eq_true, decide_true, decide_false, Nat.reduceSub, bindT, bindTs, List.length_cons, List.length_nil, sizeLine_eq, Nat.reduceAdd, Nat.reduceLeDiff, Nat.zero_add, decide_eq_true_eq, x_obj0, put0, put1, put2, ic0, ic1, ic2, ic3, ic4, ic5, ic6, ic7, ic8, ic9, ic10, ic11, ic12, ic13, ic14, ic15, ic16, ic17, ic18, ic19, ic20, ic21, ic22, ic23, Int.reduceEq, Int.reduceLT, Int.reduceLE, Int.reduceNeg, vB_var, vB_int, vB_str, vB_bl, vB_non, vB_glob, vB_tup, vB_lst, vB_dic0, vB_bin, vB_neg, vB_not, vB_and, vB_or, vB_cmp, vB_chain, vB_isN, vB_notN, vB_ifx, vB_sub, vB_slice, vB_call, vB_bi, vB_isi, vB_comp, vB_fmt, vB_fstr, vB_join, vB_own, rs_int, rs_str, rs_bl, rs_non, rs_tup, rs_lst, rs_dic, rs_scr, kFmt_ok, kJoin_ok, kJ_ok, kListM_ok, e_listM, e_fmt, e_fstr, e_join, j_nil, j_cons, kCmpC_ok, kCmpC_exc, s_ownAdd, s_appL, kOAdd_ok, kOAdd1_ok, addF_ok, sw_line_slide, sw_line_read, sw_line_try, sw_line_left, sw_line_right, sw_slide_line, sw_slide_read, sw_slide_try, sw_slide_left, sw_slide_right, sw_read_line, sw_read_slide, sw_read_try, sw_read_left, sw_read_right, sw_try_line, sw_try_slide, sw_try_read, sw_try_left, sw_try_right, sw_left_line, sw_left_slide, sw_left_read, sw_left_try, sw_left_right, sw_right_line, sw_right_slide, sw_right_read, sw_right_try, sw_right_left, it_lst, it_tup, kAppL_obj, kAppL1_ok, appF_ok, e_compI, cstep_ap, cst1_some, kCC_ok, kSome_ok, c_no, c_some, kCompI_ok, kCompE_ok, e_sset, e_lset, e_allL, i_seq, i_rng, i_rng2, i_enum, i_zip, kSeq_tup, kSeq_lst, kSeq_str, kSeq_exc, kRng2_ok, kEnum_lst, kZip_ok, kZip1_lst, vB_compI, vB_sset, vB_lset, vB_allL, rs_cdic, s_forI, s_ownExt, kForI_ok, kForI_exc, lstep_ap, lst1_some, kExt_lst, c_in, c_nin, s_aug, kAug_ok, au_add, au_sub, is_non_int, is_non_bool, is_non_str, is_non_tuple, is_non_list, is_non_dict, is_bl_int, is_bl_bool, is_bl_str, is_bl_tuple, is_bl_list, is_bl_dict, is_int_int, is_int_bool, is_int_str, is_int_tuple, is_int_list, is_int_dict, is_str_int, is_str_bool, is_str_str, is_str_tuple, is_str_list, is_str_dict, is_tup_int, is_tup_bool, is_tup_str, is_tup_tuple, is_tup_list, is_tup_dict, is_lst_int, is_lst_bool, is_lst_str, is_lst_tuple, is_lst_list, is_lst_dict, is_dic_int, is_dic_bool, is_dic_str, is_dic_tuple, is_dic_list, is_dic_dict, e_fld, e_prop, e_mcall, kFld_ok, kPrp_ok, kPrp1_some, kMth_ok, kMth1_some, kMth2_ok, rnox_ok, vB_fld, vB_prop, vB_mcall, s_setF, kSetF_ok, setFF_self, putD_nil, *])
def d_is_integer : Df := ⟨1, 1, [],
    (.cons (.ret (.and (.isi (.var 0) .int) (.not (.isi (.var 0) .bool))))
    .nil), false⟩
def d_common_divisor_b1 : Ss := (.cons (.par 0 1 (.var 1) (.bin .mod (.var 0) (.var 1)))
    .nil)
def d_common_divisor : Df := ⟨2, 2, [],
    (.cons (.whl (.cmp .gt (.var 1) (.int 0)) d_common_divisor_b1)
    (.cons (.ret (.var 0))
    .nil)), false⟩
def d_is_fraction : Df := ⟨1, 1, [],
    (.cons (.ite (.or (.not (.val (.isi (.var 0) .tuple))) (.cmp .ne (.bi .len (.var 0)) (.int 2)))
    (.cons (.ret (.bl false))
    .nil)
    .nil)
    (.cons (.ite (.or (.not (.val (.call "is_integer" (.cons (.sub (.var 0) (.int 0)) .nil)))) (.or (.not (.val (.call "is_integer" (.cons (.sub (.var 0) (.int 1)) .nil)))) (.cmp .lt (.sub (.var 0) (.int 1)) (.int 1))))
    (.cons (.ret (.bl false))
    .nil)
    .nil)
    (.cons (.ret (.cmp .eq (.call "common_divisor" (.cons (.bi .abs (.sub (.var 0) (.int 0))) (.cons (.sub (.var 0) (.int 1)) .nil))) (.int 1)))
    .nil))), false⟩
def d_fraction : Df := ⟨3, 2, [.int 1],
    (.cons (.ite (.or (.not (.val (.call "is_integer" (.cons (.var 0) .nil)))) (.or (.not (.val (.call "is_integer" (.cons (.var 1) .nil)))) (.cmp .eq (.var 1) (.int 0))))
    (.cons (.raise "NoFraction" .nil)
    .nil)
    .nil)
    (.cons (.ite (.cmp .lt (.var 1) (.int 0))
    (.cons (.par 0 1 (.neg (.var 0)) (.neg (.var 1)))
    .nil)
    .nil)
    (.cons (.set 2 (.call "common_divisor" (.cons (.bi .abs (.var 0)) (.cons (.var 1) .nil))))
    (.cons (.ret (.tup (.cons (.bin .fdiv (.var 0) (.var 2)) (.cons (.bin .fdiv (.var 1) (.var 2)) .nil))))
    .nil)))), false⟩
def d_law_deck_b1 : Ss := (.cons (.ite (.cmp .ge (.var 1) (.bin .pow (.int 10) (.int 18)))
    (.cons (.set 2 (.bin .sub (.bin .add (.bin .mul (.var 2) (.int 43)) (.var 1)) (.bin .pow (.int 10) (.int 18))))
    .nil)
    (.cons (.set 3 (.bin .add (.bin .mul (.var 3) (.int 2862933555777941757)) (.bin .mul (.int 2) (.bi .abs (.var 1)))))
    (.cons (.set 3 (.bin .mod (.bi .int (.bin .add (.var 3) (.bi .int (.cmp .lt (.var 1) (.int 0))))) (.int 2305843009213693951)))
    .nil)))
    .nil)
def d_law_deck : Df := ⟨4, 1, [],
    (.cons (.par 2 3 (.int 0) (.bin .add (.int 2938) (.bin .mul (.int 31) (.bi .len (.var 0)))))
    (.cons (.for_ (.nm 1) (.slice (.var 0) .no (.some (.int 63))) d_law_deck_b1)
    (.cons (.ret (.lstM (.cons (.var 2) (.cons (.var 3) (.cons (.int 0) .nil)))))
    .nil))), false⟩
def d_law_take : Df := ⟨4, 2, [],
    (.cons (.ite (.cmp .gt (.sub (.var 0) (.int 0)) (.int 0))
    (.cons (.set 3 (.bin .mod (.bi .int (.sub (.var 0) (.int 0))) (.var 1)))
    (.cons (.putL (.var 0) (.int 0) (.bin .fdiv (.sub (.var 0) (.int 0)) (.var 1)))
    (.cons (.ret (.var 3))
    .nil)))
    .nil)
    (.cons (.putL (.var 0) (.int 2) (.bin .add (.sub (.var 0) (.int 2)) (.int 1)))
    (.cons (.set 2 (.bin .add (.bin .mul (.sub (.var 0) (.int 1)) (.int 2862933555777941757)) (.bin .mul (.int 3037000493) (.sub (.var 0) (.int 2)))))
    (.cons (.putL (.var 0) (.int 1) (.bin .mod (.bi .int (.var 2)) (.int 2305843009213693951)))
    (.cons (.ret (.bin .mod (.bin .fdiv (.bin .mod (.bi .int (.bin .mul (.sub (.var 0) (.int 1)) (.sub (.var 0) (.int 1)))) (.int 2305843009213693921)) (.int 4096)) (.var 1)))
    .nil))))), false⟩
def d_law_frac_b1 : Ss := (.cons (.par 3 4 (.var 4) (.bin .mod (.bi .int (.var 3)) (.var 4)))
    .nil)
def d_law_frac : Df := ⟨5, 2, [],
    (.cons (.par 3 4 (.bi .abs (.var 0)) (.bi .abs (.var 1)))
    (.cons (.whl (.cmp .gt (.var 4) (.int 0)) d_law_frac_b1)
    (.cons (.set 2 (.ifx (.cmp .gt (.var 1) (.int 0)) (.int 1) (.neg (.int 1))))
    (.cons (.ret (.tup (.cons (.bin .fdiv (.bin .mul (.var 2) (.var 0)) (.var 3)) (.cons (.bin .fdiv (.bin .mul (.var 2) (.var 1)) (.var 3)) .nil))))
    .nil)))), false⟩
def d_law_plus : Df := ⟨2, 2, [],
    (.cons (.ret (.call "_law_frac" (.cons (.bin .add (.bin .mul (.sub (.var 0) (.int 0)) (.sub (.var 1) (.int 1))) (.bin .mul (.sub (.var 1) (.int 0)) (.sub (.var 0) (.int 1)))) (.cons (.bin .mul (.sub (.var 0) (.int 1)) (.sub (.var 1) (.int 1))) .nil))))
    .nil), false⟩
def d_law_minus : Df := ⟨2, 2, [],
    (.cons (.ret (.call "_law_frac" (.cons (.bin .sub (.bin .mul (.sub (.var 0) (.int 0)) (.sub (.var 1) (.int 1))) (.bin .mul (.sub (.var 1) (.int 0)) (.sub (.var 0) (.int 1)))) (.cons (.bin .mul (.sub (.var 0) (.int 1)) (.sub (.var 1) (.int 1))) .nil))))
    .nil), false⟩
def d_law_times : Df := ⟨2, 2, [],
    (.cons (.ret (.call "_law_frac" (.cons (.bin .mul (.sub (.var 0) (.int 0)) (.sub (.var 1) (.int 0))) (.cons (.bin .mul (.sub (.var 0) (.int 1)) (.sub (.var 1) (.int 1))) .nil))))
    .nil), false⟩
def d_law_part : Df := ⟨1, 1, [],
    (.cons (.ret (.tup (.cons (.bin .mod (.bi .int (.sub (.var 0) (.int 0))) (.sub (.var 0) (.int 1))) (.cons (.sub (.var 0) (.int 1)) .nil))))
    .nil), false⟩
def d_law_number : Df := ⟨3, 2, [],
    (.cons (.set 2 (.sub (.tup (.cons (.int 5) (.cons (.int 30) (.cons (.bin .pow (.int 10) (.int 4)) (.cons (.bin .pow (.int 10) (.int 18)) .nil))))) (.var 1)))
    (.cons (.ret (.bin .sub (.call "_law_take" (.cons (.var 0) (.cons (.bin .add (.bin .mul (.int 2) (.var 2)) (.int 1)) .nil))) (.var 2)))
    .nil)), false⟩
def d_law_fraction : Df := ⟨2, 1, [],
    (.cons (.set 1 (.call "_law_take" (.cons (.var 0) (.cons (.int 4) .nil))))
    (.cons (.ret (.call "_law_frac" (.cons (.call "_law_number" (.cons (.var 0) (.cons (.var 1) .nil))) (.cons (.bin .add (.int 1) (.call "_law_take" (.cons (.var 0) (.cons (.sub (.tup (.cons (.int 4) (.cons (.int 30) (.cons (.bin .pow (.int 10) (.int 4)) (.cons (.bin .pow (.int 10) (.int 18)) .nil))))) (.var 1)) .nil)))) .nil))))
    .nil)), false⟩
section
variable {C : Cn} {t : Tbl}
theorem while_go {test : DE → S → R Bool} {body : DE → S → RS} {m : Nat} {env env' : DE} {st s1 s2 : S} (ht : test env st = .ok true s1) (hb : body env s1 = .ok (.nx env') s2) : whileS test body (m + 1) env st = whileS test body m env' s2 := by
  simp only [whileS, ht, R.st, if_true, hb]
theorem while_end {test : DE → S → R Bool} {body : DE → S → RS} {m : Nat} {env : DE} {st s1 : S} (ht : test env st = .ok false s1) : whileS test body (m + 1) env st = .ok (.nx env) s1 := by
  simp only [whileS, ht, R.st, Bool.false_eq_true, if_false]
theorem loop_go {f : D → DE → S → RS} {x : D} {xs : List D} {env env' : DE} {st s2 : S} (hb : f x env st = .ok (.nx env') s2) : loopS f (x :: xs) env st = loopS f xs env' s2 := by
  simp only [loopS, hb]
theorem is_integer_int (ht : t "is_integer" = some d_is_integer) (n : Nat) (i : Int) (st : S) : callN C t (n + 1) "is_integer" [.int i] st = .ok (.bl true) st := by
  rw [call_run ht rfl]
  rfl
theorem is_integer_bl (ht : t "is_integer" = some d_is_integer) (n : Nat) (b : Bool) (st : S) : callN C t (n + 1) "is_integer" [.bl b] st = .ok (.bl false) st := by
  rw [call_run ht rfl]
  rfl
theorem is_integer_gen (ht : t "is_integer" = some d_is_integer) (n : Nat) {d : D} {a b : Bool} (h1 : isiD d .int = some a) (h2 : isiD d .bool = some b) (st : S) : callN C t (n + 1) "is_integer" [d] st = .ok (.bl (a && !b)) st := by
  rw [call_run ht rfl]
  simp only [d_is_integer]
  simp only [e_and, e_not, e_isi, e_var, ss_cons, ss_nil, s_ret, List.map_cons, List.map_nil, Nat.sub_self, ri0, List.cons_append, List.nil_append, gi0, kIsi_ok, h1, h2, Option.map_some, ofO_some, kAnd_ok, kNot_ok]
  cases a <;> cases b <;> rfl
/-- no integer -/
def notInt (d : D) : Prop := ∃ a b, isiD d .int = some a ∧ isiD d .bool = some b ∧ (a && !b) = false
theorem is_integer_no (ht : t "is_integer" = some d_is_integer) (n : Nat) {d : D} (h : notInt d) (st : S) : callN C t (n + 1) "is_integer" [d] st = .ok (.bl false) st := by
  obtain ⟨a, b, h1, h2, h3⟩ := h
  rw [is_integer_gen ht n h1 h2, h3]
theorem fraction_no1 (hx : C.xn "NoFraction" = true) (hi : t "is_integer" = some d_is_integer) (ht : t "fraction" = some d_fraction) (n : Nat) {d e : D} (h : notInt d) (st : S) : callN C t (n + 2) "fraction" [d, e] st = .exc ⟨"NoFraction", []⟩ st := by
  rw [call_run ht rfl]
  have h1 := is_integer_no (C := C) hi n h st
  clear h
  simp only [d_fraction]
  walk_at "pvh"
theorem fraction_no2 (hx : C.xn "NoFraction" = true) (hi : t "is_integer" = some d_is_integer) (ht : t "fraction" = some d_fraction) (n : Nat) {i : Int} {e : D} (h : notInt e) (st : S) : callN C t (n + 2) "fraction" [.int i, e] st = .exc ⟨"NoFraction", []⟩ st := by
  rw [call_run ht rfl]
  have h1 := is_integer_no (C := C) hi n h st
  have h2 := is_integer_int (C := C) hi n i st
  clear h
  simp only [d_fraction]
  walk_at "pvh"
theorem fraction_no0 (hx : C.xn "NoFraction" = true) (hi : t "is_integer" = some d_is_integer) (ht : t "fraction" = some d_fraction) (n : Nat) {i : Int} (st : S) : callN C t (n + 2) "fraction" [.int i, .int 0] st = .exc ⟨"NoFraction", []⟩ st := by
  rw [call_run ht rfl]
  have h1 := is_integer_int (C := C) hi n 0 st
  have h2 := is_integer_int (C := C) hi n i st
  simp only [d_fraction]
  walk_at "pvh"
theorem wfuel_big {b : Int} (h : b.natAbs < 2 ^ 19000) : b.toNat < wfuel := by
  have h1 : (2 : Nat) ^ 19000 ≤ wfuel := Nat.pow_le_pow_right (by decide) (by decide)
  omega
theorem gcd_step {a b : Int} (ha : 0 ≤ a) (hb : 0 < b) : Int.gcd b (a % b) = Int.gcd a b := by
  obtain ⟨x, rfl⟩ := Int.eq_ofNat_of_zero_le ha
  obtain ⟨y, rfl⟩ := Int.eq_ofNat_of_zero_le (Int.le_of_lt hb)
  show Nat.gcd (Int.natAbs y) (Int.natAbs ((x : Int) % (y : Int))) = Nat.gcd (Int.natAbs x) (Int.natAbs y)
  rw [← Int.natCast_emod, Int.natAbs_natCast, Int.natAbs_natCast, Int.natAbs_natCast, Nat.gcd_comm x y, Nat.gcd_comm y (x % y), ← Nat.gcd_rec]
/-- a loop that makes (a, b) into (b, a % b) while b > 0 -/
theorem gcd_while {test : DE → S → R Bool} {body : DE → S → RS} {st : S} (mk : Int → Int → DE) (h1 : ∀ a b, test (mk a b) st = .ok (decide (0 < b)) st) (h2 : ∀ a b, 0 < b → body (mk a b) st = .ok (.nx (mk b (a % b))) st) :
    ∀ (k : Nat) (a b : Int) (m : Nat), 0 ≤ a → 0 ≤ b → b.toNat ≤ k → k < m → whileS test body m (mk a b) st = .ok (.nx (mk (Int.gcd a b) 0)) st := by
  have last : ∀ (a : Int) (m : Nat), 0 ≤ a → whileS test body (m + 1) (mk a 0) st = .ok (.nx (mk (Int.gcd a 0) 0)) st := by
    intro a m ha
    have g : ((Int.gcd a 0 : Nat) : Int) = a := by rw [Int.gcd_zero_right]; omega
    rw [g]
    exact while_end (h1 a 0)
  intro k
  induction k with
  | zero =>
    intro a b m ha hb hk hm
    have e : b = 0 := by omega
    subst e
    obtain ⟨m, rfl⟩ : ∃ m', m = m' + 1 := ⟨m - 1, by omega⟩
    exact last a m ha
  | succ k ih =>
    intro a b m ha hb hk hm
    obtain ⟨m, rfl⟩ : ∃ m', m = m' + 1 := ⟨m - 1, by omega⟩
    by_cases h0 : b = 0
    · subst h0
      exact last a m ha
    · have hp : 0 < b := by omega
      have e1 := Int.emod_nonneg a h0
      have e2 := Int.emod_lt_of_pos a hp
      have := ih b (a % b) m hb e1 (by omega) (by omega)
      rw [gcd_step ha hp] at this
      rw [← this]
      exact while_go (by rw [h1, decide_eq_true hp]) (h2 a b hp)
theorem common_divisor_ok (ht : t "common_divisor" = some d_common_divisor) (n : Nat) {a b : Int} (ha : 0 ≤ a) (hb : 0 ≤ b) (hz : b.natAbs < 2 ^ 19000) (st : S) : callN C t (n + 1) "common_divisor" [.int a, .int b] st = .ok (.int (Int.gcd a b)) st := by
  rw [call_run ht rfl]
  have h := gcd_while (st := st) (test := evT C (callN C t n) (.cmp .gt (.var 1) (.int 0))) (body := evSs C (callN C t n) d_common_divisor_b1) (fun a b => [.val (.int a), .val (.int b)])
    (fun a b => rfl) (fun a b hp => by simp only [d_common_divisor_b1]; walk_at "pv"; rw [b_mod hp]; walk_at "pv") b.toNat a b wfuel ha hb (Nat.le_refl _) (wfuel_big hz)
  simp only [d_common_divisor]
  walk_at "pvh"
/-- (top, bottom) in lowest terms -/
def frN (a b : Int) : Int := if b < 0 then (-a) / (Int.gcd a b : Nat) else a / (Int.gcd a b : Nat)
def frB (a b : Int) : Int := if b < 0 then (-b) / (Int.gcd a b : Nat) else b / (Int.gcd a b : Nat)
def frD (a b : Int) : D := .tup [.int (frN a b), .int (frB a b)]
theorem gcd_pos {a b : Int} (hb : b ≠ 0) : 0 < Int.gcd a b := Nat.pos_of_ne_zero fun h => hb (Int.gcd_eq_zero_iff.mp h).2
theorem gcd_lt {a b : Int} {k : Nat} (hb : b ≠ 0) (h : b.natAbs < 2 ^ k) : Int.gcd a b < 2 ^ k := Nat.lt_of_le_of_lt (Nat.le_of_dvd (Int.natAbs_pos.mpr hb) (Int.gcd_dvd_natAbs_right a b)) h
theorem big_lt {i : Int} {k : Nat} (hk : 0 < k) (h : i.natAbs < 2 ^ k) : big i < k := PySem.Flt.log2_lt_of hk h
theorem fraction_ok (hi : t "is_integer" = some d_is_integer) (hc : t "common_divisor" = some d_common_divisor) (ht : t "fraction" = some d_fraction) (n : Nat) {a b : Int} (hb : b ≠ 0) (hz : b.natAbs < 2 ^ 8000) (st : S) :
    callN C t (n + 2) "fraction" [.int a, .int b] st = .ok (frD a b) st := by
  rw [call_run ht rfl]
  have h1 := is_integer_int (C := C) hi n a st
  have h2 := is_integer_int (C := C) hi n b st
  have hgz : ((Int.gcd a b : Nat) : Int).natAbs < 2 ^ 8000 := by rw [Int.natAbs_natCast]; exact gcd_lt hb hz
  have hgp : (0 : Int) < (Int.gcd a b : Nat) := by have := gcd_pos (a := a) hb; omega
  have hgb : big ((Int.gcd a b : Nat) : Int) < 9000 := Nat.lt_trans (big_lt (by decide) hgz) (by decide)
  have hz2 : b.natAbs < 2 ^ 19000 := Nat.lt_of_lt_of_le hz (Nat.pow_le_pow_right (by decide) (by decide))
  by_cases h0 : b < 0
  · have h3 := common_divisor_ok (C := C) hc n (a := ((-a).natAbs : Int)) (b := -b) (by omega) (by omega) (by rw [Int.natAbs_neg]; exact hz2) st
    have hg : Int.gcd ((-a).natAbs : Int) (-b) = Int.gcd a b := by
      show Nat.gcd (Int.natAbs _) (Int.natAbs _) = _
      rw [Int.natAbs_natCast, Int.natAbs_neg, Int.natAbs_neg]
      rfl
    rw [hg] at h3
    have hf : ∀ i : Int, binD .fdiv (.int i) (.int (Int.gcd a b : Nat)) = some (.int (i / (Int.gcd a b : Nat))) := fun i => b_fdiv hgp hgb
    simp only [d_fraction, frD, frN, frB]
    walk_at "pvh"
  · have h3 := common_divisor_ok (C := C) hc n (a := (a.natAbs : Int)) (b := b) (by omega) (by omega) hz2 st
    have hg : Int.gcd (a.natAbs : Int) b = Int.gcd a b := by
      show Nat.gcd (Int.natAbs _) (Int.natAbs _) = _
      rw [Int.natAbs_natCast]
      rfl
    rw [hg] at h3
    have hf : ∀ i : Int, binD .fdiv (.int i) (.int (Int.gcd a b : Nat)) = some (.int (i / (Int.gcd a b : Nat))) := fun i => b_fdiv hgp hgb
    simp only [d_fraction, frD, frN, frB]
    walk_at "pvh"
/-! ### the law's deck of draws -/
/-- the deck stands at number 0 -/
structure Deck (rest st : S) : Prop where
  ex : ∃ g s c : Int, st = .lst [.int g, .int s, .int c] :: rest ∧ 0 ≤ g ∧ 0 ≤ s ∧ s < 2305843009213693951
theorem take_ok (ht : t "_law_take" = some d_law_take) (n : Nat) {l : Int} (hl : 0 < l) (hz : l.natAbs < 2 ^ 8000) {rest st : S} (dk : Deck rest st) :
    ∃ v st', callN C t (n + 1) "_law_take" [.obj 0, .int l] st = .ok (.int v) st' ∧ 0 ≤ v ∧ v < l ∧ Deck rest st' := by
  obtain ⟨g, s, c, rfl, hg, hs, hs2⟩ := dk.ex
  have hb : big l < 9000 := Nat.lt_trans (big_lt (by decide) hz) (by decide)
  have hmod : ∀ i : Int, binD .mod (.int i) (.int l) = some (.int (i % l)) := fun i => b_mod hl
  have hdiv : ∀ i : Int, binD .fdiv (.int i) (.int l) = some (.int (i / l)) := fun i => b_fdiv hl hb
  rw [call_run ht rfl]
  by_cases h0 : 0 < g
  · refine ⟨g % l, .lst [.int (g / l), .int s, .int c] :: rest, ?_, Int.emod_nonneg _ (by omega), Int.emod_lt_of_pos _ hl, ⟨_, _, _, rfl, Int.ediv_nonneg hg (by omega), hs, hs2⟩⟩
    simp only [d_law_take]
    walk_at "pvh"
  · have hgz : g = 0 := by omega
    subst hgz
    refine ⟨((s * 2862933555777941757 + 3037000493 * (c + 1)) % 2305843009213693951 * ((s * 2862933555777941757 + 3037000493 * (c + 1)) % 2305843009213693951)) % 2305843009213693921 / 4096 % l, .lst [.int 0, .int ((s * 2862933555777941757 + 3037000493 * (c + 1)) % 2305843009213693951), .int (c + 1)] :: rest, ?_, Int.emod_nonneg _ (by omega), Int.emod_lt_of_pos _ hl, ⟨_, _, _, rfl, by omega, Int.emod_nonneg _ (by decide), Int.emod_lt_of_pos _ (by decide)⟩⟩
    simp only [d_law_take]
    have m1 : binD .mul (.int s) (.int 2862933555777941757) = some (.int (s * 2862933555777941757)) := b_mulR (by decide)
    have m2 : binD .mul (.int 3037000493) (.int (c + 1)) = some (.int (3037000493 * (c + 1))) := b_mulL (by decide)
    have m3 : ∀ i : Int, binD .mod (.int i) (.int 2305843009213693951) = some (.int (i % 2305843009213693951)) := fun i => b_mod (by decide)
    have m4 : ∀ i : Int, binD .mod (.int i) (.int 2305843009213693921) = some (.int (i % 2305843009213693921)) := fun i => b_mod (by decide)
    have m5 : ∀ i : Int, binD .fdiv (.int i) (.int 4096) = some (.int (i / 4096)) := fun i => b_fdiv (by decide) (by decide)
    have m6 : ∀ i : Int, binD .mul (.int (i % 2305843009213693951)) (.int (i % 2305843009213693951)) = some (.int ((i % 2305843009213693951) * (i % 2305843009213693951))) := fun i => b_mulL (by
      have h1 := Int.emod_nonneg i (b := 2305843009213693951) (by decide)
      have h2 := Int.emod_lt_of_pos i (b := 2305843009213693951) (by decide)
      omega)
    walk_at "pvh"
theorem deck_loop {Φ : Fe} {st : S} {ns : List Int} : ∀ (xs : List Int) (sl : Sl) (g s : Int), 0 ≤ g → 0 ≤ s → s < 2305843009213693951 →
    ∃ sl' g' s', loopS (fun d env s => evSs C Φ d_law_deck_b1 (env.set 1 (.val d)) s) (xs.map D.int) [.val (.scr ns), sl, .val (.int g), .val (.int s)] st = .ok (.nx [.val (.scr ns), sl', .val (.int g'), .val (.int s')]) st ∧ 0 ≤ g' ∧ 0 ≤ s' ∧ s' < 2305843009213693951
  | [], sl, g, s, hg, hs, hs2 => ⟨sl, g, s, rfl, hg, hs, hs2⟩
  | x :: xs, sl, g, s, hg, hs, hs2 => by
    have p18 : binD .pow (.int 10) (.int 18) = some (.int 1000000000000000000) := b_pow ⟨by decide, by decide, by decide⟩
    by_cases hx : 1000000000000000000 ≤ x
    · obtain ⟨sl', g', s', h1, h2⟩ := deck_loop xs (.val (.int x)) (g * 43 + x - 1000000000000000000) s (by omega) hs hs2
      refine ⟨sl', g', s', ?_, h2⟩
      rw [← h1]
      have m1 : binD .mul (.int g) (.int 43) = some (.int (g * 43)) := b_mulR (by decide)
      refine loop_go ?_
      simp only [d_law_deck_b1]
      walk_at "pvh"
    · have e1 := Int.emod_nonneg (s * 2862933555777941757 + 2 * (x.natAbs : Int) + (if decide (x < 0) = true then 1 else 0)) (b := 2305843009213693951) (by decide)
      have e2 := Int.emod_lt_of_pos (s * 2862933555777941757 + 2 * (x.natAbs : Int) + (if decide (x < 0) = true then 1 else 0)) (b := 2305843009213693951) (by decide)
      obtain ⟨sl', g', s', h1, h2⟩ := deck_loop xs (.val (.int x)) g _ hg e1 e2
      refine ⟨sl', g', s', ?_, h2⟩
      rw [← h1]
      have m1 : binD .mul (.int s) (.int 2862933555777941757) = some (.int (s * 2862933555777941757)) := b_mulR (by decide)
      have m2 : binD .mul (.int 2) (.int (x.natAbs : Int)) = some (.int (2 * (x.natAbs : Int))) := b_mulL (by decide)
      have m3 : ∀ i : Int, binD .mod (.int i) (.int 2305843009213693951) = some (.int (i % 2305843009213693951)) := fun i => b_mod (by decide)
      refine loop_go ?_
      clear h1 h2 e1 e2
      simp only [d_law_deck_b1]
      walk_at "pvh"
theorem cut_map {α β : Type} (f : α → β) (xs : List α) (lo hi : Option Int) : cutD (xs.map f) lo hi = (cutD xs lo hi).map f := by
  unfold cutD
  rw [List.length_map, List.map_take, List.map_drop]
theorem deck_ok (ht : t "_law_deck" = some d_law_deck) (n : Nat) {ns : List Int} (hn : ns.length ≤ 63) : ∃ st', callN C t (n + 1) "_law_deck" [.scr ns] [] = .ok (.obj 0) st' ∧ Deck [] st' := by
  rw [call_run ht rfl]
  obtain ⟨sl', g', s', h1, hg, hs, hs2⟩ := deck_loop (C := C) (Φ := callN C t n) (st := []) (ns := ns) (cutD ns none (some 63)) .no 0 (2938 + 31 * (ns.length : Int)) (by omega) (by omega) (by omega)
  refine ⟨[.lst [.int g', .int s', .int 0]], ?_, ⟨g', s', 0, rfl, hg, hs, hs2⟩⟩
  have hsl : sliceD [] (.scr ns) none (some 63) = some (.lst ((cutD ns none (some 63)).map D.int)) := by
    show some (D.lst (cutD (ns.map D.int) none (some 63))) = _
    rw [cut_map]
  have m1 : binD .mul (.int 31) (.int (ns.length : Int)) = some (.int (31 * (ns.length : Int))) := b_mulL (by decide)
  have hit : itemsD [] (.lst ((cutD ns none (some 63)).map D.int)) = some ((cutD ns none (some 63)).map D.int) := rfl
  clear hg hs hs2
  simp only [d_law_deck]
  walk_at "pvh"
/-- the law's own fractions -/
theorem law_frac_ok (ht : t "_law_frac" = some d_law_frac) (n : Nat) {a b : Int} (hb : b ≠ 0) (hz : b.natAbs < 2 ^ 8000) (st : S) : callN C t (n + 1) "_law_frac" [.int a, .int b] st = .ok (frD a b) st := by
  rw [call_run ht rfl]
  have hgz : ((Int.gcd a b : Nat) : Int).natAbs < 2 ^ 8000 := by rw [Int.natAbs_natCast]; exact gcd_lt hb hz
  have hgp : (0 : Int) < (Int.gcd a b : Nat) := by have := gcd_pos (a := a) hb; omega
  have hgb : big ((Int.gcd a b : Nat) : Int) < 9000 := Nat.lt_trans (big_lt (by decide) hgz) (by decide)
  have hz2 : (b.natAbs : Int).natAbs < 2 ^ 19000 := by rw [Int.natAbs_natCast]; exact Nat.lt_of_lt_of_le hz (Nat.pow_le_pow_right (by decide) (by decide))
  have h := gcd_while (st := st) (test := evT C (callN C t n) (.cmp .gt (.var 4) (.int 0))) (body := evSs C (callN C t n) d_law_frac_b1) (fun p q => [.val (.int a), .val (.int b), .no, .val (.int p), .val (.int q)])
    (fun a b => rfl) (fun a b hp => by simp only [d_law_frac_b1]; walk_at "pv"; rw [b_mod hp]; walk_at "pv") (b.natAbs : Int).toNat (a.natAbs : Int) (b.natAbs : Int) wfuel (by omega) (by omega) (Nat.le_refl _) (wfuel_big hz2)
  have hg : Int.gcd (a.natAbs : Int) (b.natAbs : Int) = Int.gcd a b := by
    show Nat.gcd (Int.natAbs _) (Int.natAbs _) = _
    rw [Int.natAbs_natCast, Int.natAbs_natCast]
    rfl
  rw [hg] at h
  have hf : ∀ i : Int, binD .fdiv (.int i) (.int (Int.gcd a b : Nat)) = some (.int (i / (Int.gcd a b : Nat))) := fun i => b_fdiv hgp hgb
  have m1 : ∀ i : Int, binD .mul (.int 1) (.int i) = some (.int (1 * i)) := fun i => b_mulL (by decide)
  have m2 : ∀ i : Int, binD .mul (.int (-1)) (.int i) = some (.int (-1 * i)) := fun i => b_mulL (by decide)
  have e1 : ∀ i : Int, 1 * i = i := Int.one_mul
  have e2 : ∀ i : Int, -1 * i = -i := fun i => by omega
  clear hgz hgb hz2 hg
  by_cases h0 : 0 < b
  · have h1 : ¬ b < 0 := by omega
    simp only [d_law_frac, frD, frN, frB]
    walk_at "pvh"
  · have h1 : b < 0 := by omega
    simp only [d_law_frac, frD, frN, frB]
    walk_at "pvh"
theorem number_ok (hk : t "_law_take" = some d_law_take) (ht : t "_law_number" = some d_law_number) (n : Nat) {k : Int} (h0 : 0 ≤ k) (h4 : k < 4) {rest st : S} (dk : Deck rest st) :
    ∃ v st', callN C t (n + 2) "_law_number" [.obj 0, .int k] st = .ok (.int v) st' ∧ -1000000000000000000 ≤ v ∧ v ≤ 1000000000000000000 ∧ Deck rest st' := by
  rw [call_run ht rfl]
  have p18 : binD .pow (.int 10) (.int 18) = some (.int 1000000000000000000) := b_pow ⟨by decide, by decide, by decide⟩
  have p4 : binD .pow (.int 10) (.int 4) = some (.int 10000) := b_pow ⟨by decide, by decide, by decide⟩
  have m2 : ∀ i : Int, binD .mul (.int 2) (.int i) = some (.int (2 * i)) := fun i => b_mulL (by decide)
  have main : ∀ l : Int, 0 ≤ l → l ≤ 1000000000000000000 → L2.atI [D.int 5, .int 30, .int 10000, .int 1000000000000000000] k = some (.int l) →
      ∃ v st', kRun (evSs C (callN C t (n + 1)) d_law_number.body ([D.obj 0, .int k].map .val ++ List.replicate (d_law_number.n - d_law_number.np) .no) st) = .ok (.int v) st' ∧ -1000000000000000000 ≤ v ∧ v ≤ 1000000000000000000 ∧ Deck rest st' := by
    intro l hl0 hl1 hat
    obtain ⟨v, st', h1, h2, h3, h4⟩ := take_ok (C := C) hk n (l := 2 * l + 1) (by omega) (by
      have : (2 * l + 1).natAbs < 2 ^ 64 := by omega
      exact Nat.lt_of_lt_of_le this (Nat.pow_le_pow_right (by decide) (by decide))) dk
    refine ⟨v - l, st', ?_, by omega, by omega, h4⟩
    clear h2 h3 h4 hl0 hl1
    simp only [d_law_number]
    walk_at "pvh"
  have hc : k = 0 ∨ k = 1 ∨ k = 2 ∨ k = 3 := by omega
  rcases hc with rfl | rfl | rfl | rfl
  · exact main 5 (by decide) (by decide) ai0
  · exact main 30 (by decide) (by decide) ai1
  · exact main 10000 (by decide) (by decide) ai2
  · exact main 1000000000000000000 (by decide) (by decide) ai3
end
/-! ### repr -/
mutual
/-- the leaves are small: ints below 2 ^ B -/
def lf (B : Nat) : PyData → Bool
  | .none => true
  | .bool _ => true
  | .int i => decide (i.natAbs < 2 ^ B)
  | .str x => decide ((reprText x).length ≤ B)
  | .list xs => lfs B xs
  | .tuple xs => lfs B xs
  | .dict _ => false
def lfs (B : Nat) : List PyData → Bool
  | [] => true
  | x :: xs => lf B x && lfs B xs
end
mutual
def nod : PyData → Nat
  | .list xs => 1 + nods xs
  | .tuple xs => 1 + nods xs
  | _ => 1
def nods : List PyData → Nat
  | [] => 0
  | x :: xs => nod x + nods xs
end
theorem toString_len {i : Int} {B : Nat} (hB : 0 < B) (h : i.natAbs < 2 ^ B) : (PyData.shown (.int i)).length ≤ B + 1 := by
  have e := int_text_length_le (k := B) hB (PySem.Flt.log2_lt_of hB h)
  show (Str.ofString (toString i)).length ≤ _
  rw [PySem.ofString_length]
  exact e
mutual
theorem shown_len {B : Nat} (hB : 8 ≤ B) : ∀ d : PyData, lf B d = true → d.shown.length + 3 ≤ (B + 6) * nod d
  | .none, _ => by
    have : (PyData.shown .none).length = 4 := by decide
    rw [this]
    simp only [nod]
    omega
  | .bool b, _ => by
    have : (PyData.shown (.bool b)).length ≤ 5 := by cases b <;> decide
    simp only [nod]
    omega
  | .int i, h => by
    have := toString_len (i := i) (B := B) (by omega) (of_decide_eq_true (by simpa only [lf] using h))
    simp only [nod]
    omega
  | .str x, h => by
    have h' : (reprText x).length ≤ B := of_decide_eq_true (by simpa only [lf] using h)
    have e : (PyData.shown (.str x)).length = (reprText x).length := by simp only [PyData.shown]
    simp only [nod]
    omega
  | .list xs, h => by
    have h1 := shown_lens hB xs (by simpa only [lf] using h)
    have h2 := listText_len_le (PyData.shownAll xs)
    have h3 := PyData.shownAll_length xs
    have e : (PyData.shown (.list xs)) = listText (PyData.shownAll xs) := by simp only [PyData.shown]
    rw [e]
    simp only [nod, Nat.mul_add, Nat.mul_one]
    omega
  | .tuple xs, h => by
    have h1 := shown_lens hB xs (by simpa only [lf] using h)
    have h2 := tupleText_len_le (PyData.shownAll xs)
    have h3 := PyData.shownAll_length xs
    have e : (PyData.shown (.tuple xs)) = tupleText (PyData.shownAll xs) := by simp only [PyData.shown]
    rw [e]
    simp only [nod, Nat.mul_add, Nat.mul_one]
    omega
  | .dict _, h => by simp [lf] at h
theorem shown_lens {B : Nat} (hB : 8 ≤ B) : ∀ xs : List PyData, lfs B xs = true → ((PyData.shownAll xs).map (·.length)).sum + 3 * xs.length ≤ (B + 6) * nods xs
  | [], _ => by simp [PyData.shownAll, nods]
  | x :: xs, h => by
    simp only [lfs, Bool.and_eq_true] at h
    have h1 := shown_len hB x h.1
    have h2 := shown_lens hB xs h.2
    simp only [PyData.shownAll, nods, List.map_cons, List.sum_cons, List.length_cons, Nat.mul_add]
    omega
end
mutual
theorem lf_show : ∀ d : PyData, lf 1900 d = true → d.showable = true ∧ d.hasDict = false
  | .none, _ => ⟨rfl, rfl⟩
  | .bool b, _ => ⟨rfl, rfl⟩
  | .int i, h => by
    have h' : i.natAbs < 2 ^ 1900 := of_decide_eq_true (by simpa only [lf] using h)
    have : i.natAbs.log2 < 1900 := PySem.Flt.log2_lt_of (by decide) h'
    exact ⟨by simp only [PyData.showable, decide_eq_true_eq]; omega, rfl⟩
  | .str x, h => ⟨rfl, rfl⟩
  | .list xs, h => by
    have := lfs_show xs (by simpa only [lf] using h)
    exact ⟨by simpa only [PyData.showable] using this.1, by simpa only [PyData.hasDict] using this.2⟩
  | .tuple xs, h => by
    have := lfs_show xs (by simpa only [lf] using h)
    exact ⟨by simpa only [PyData.showable] using this.1, by simpa only [PyData.hasDict] using this.2⟩
  | .dict _, h => by simp [lf] at h
theorem lfs_show : ∀ d : List PyData, lfs 1900 d = true → PyData.showableAll d = true ∧ PyData.hasDictAll d = false
  | [], _ => ⟨rfl, rfl⟩
  | x :: xs, h => by
    simp only [lfs, Bool.and_eq_true] at h
    have h1 := lf_show x h.1
    have h2 := lfs_show xs h.2
    exact ⟨by simp [PyData.showableAll, h1.1, h2.1], by simp [PyData.hasDictAll, h1.2, h2.2]⟩
end
theorem k_repr {d : D} {p : PyData} {s : S} (hp : d.pd = some p) (h1 : lf 1900 p = true) (h2 : p.depth ≤ 60) (h4 : nod p ≤ 8000) : biD s .repr d = some (.str p.shown) := by
  have h3 := lf_show p h1
  have h5 := shown_len (by decide) p h1
  have h6 : p.shown.length ≤ sizeLine := by
    rw [sizeLine_eq]
    have : (1900 + 6) * nod p ≤ 1906 * 8000 := Nat.mul_le_mul_left _ h4
    omega
  show (match d.pd with | some p => _ | none => _) = _
  rw [hp]
  exact if_pos ⟨⟨h3.1, h2⟩, h3.2, h6⟩
end PV

set_option Elab.async false
set_option linter.all false
set_option maxRecDepth 100000
set_option maxHeartbeats 1000000
set_option exponentiation.threshold 30000
namespace PV
open PySem PySem.Spec PyProof.Rows L2
local macro_rules | `(tactic| walk_at "pv") => `(tactic| simp only [e_var, e_int, e_str, e_bl, e_non, e_glob, e_tup, e_lst, e_lstM, e_dic0, e_bin, e_neg, e_not, e_and, e_or, e_cmp, e_chain, e_isN, e_notN, e_ifx, e_sub, e_slice, e_call, e_bi, e_isi, e_comp, es_nil, es_cons, o_no, o_some, t_val, t_and, t_or, t_not, t_cmp, t_chain, t_isN, t_notN, kCons_ok, kCons_exc, kCons1_ok, kCons1_exc, kTup_ok, kTup_exc, kLst_ok, kLst_exc, kLstM_ok, kCall_ok, kCall_exc, kBin_ok, kBin_exc, kBin1_ok, kBin1_exc, kNeg_ok, kNot_ok, kNot_exc, kAnd_ok, kAnd_exc, kOr_ok, kOr_exc, kCmp_ok, kCmp_exc, kCmp1_ok, kCmp1_exc, kCh_ok, kCh1_ok, kCh2_some, kIf_ok, kIf_exc, kSub_ok, kSub_exc, kSub1_ok, kSub1_exc, kSl_ok, kSl1_ok, kSl2_ok, kBi_ok, kBi_exc, kIsi_ok, kTru_bl, kTru_exc, kTAnd_ok, kTAnd_exc, kTOr_ok, kTOr_exc, kTNot_ok, kTNot_exc, kTB_ok, kTB_exc, kInt_ok, kIsN_non, kNotN_non, ofO_some, ss_nil, ss_cons, s_expr, s_set, s_par, s_asg, s_putL, s_ownNew, s_ownApp, s_freeze, s_ret, s_retN, s_ite, s_whl, s_forN, s_forR, s_brk, s_cont, s_pass, s_raise, s_try, sq_nx, sq_rt, sq_bk, sq_ct, sq_exc, kExpr_ok, kExpr_exc, kSet_ok, kSet_exc, kPar_ok, kPar_exc, kPar1_ok, kPar1_exc, kAsg_ok, kAsg_exc, kPut_ok, kPut1_ok, kPut2_ok, kOwn_ok, kApp_ok, kRet_ok, kRet_exc, kSIf_ok, kSIf_exc, kFor_tup, kFor_lst, kRun_nx, kRun_rt, kRun_exc, kTry_ok, kTry_exc, nox_ok, eq_ii, eq_ss, si0, si1, si2, si3, si4, si5, si6, si7, si8, si9, si10, si11, si12, si13, si14, si15, b_add, b_sub, c_lt, c_le, c_gt, c_ge, eq_ii, eq_ss, c_eq, c_ne, k_abs, k_int, k_intB, k_lenT, k_lenL, k_lenS, x_tup, x_lst, gi0, si0, gi1, si1, gi2, si2, gi3, si3, gi4, si4, gi5, si5, gi6, si6, gi7, si7, gi8, si8, gi9, si9, gi10, si10, gi11, si11, gi12, si12, gi13, si13, gi14, si14, gi15, si15, ri0, ri1, ri2, ri3, ri4, ri5, ri6, ri7, ri8, ri9, ri10, ri11, ai0, ai1, ai2, ai3, ai4, ai5, ai6, ai7, ai8, ai9, List.map_cons, List.map_nil, List.cons_append, List.nil_append, List.append_nil, Option.map_some, R.bind_ok, Bool.not_true, Bool.not_false, if_true, if_false, Bool.false_eq_true, decide_true, decide_false, Nat.reduceSub, bindT, bindTs, List.length_cons, List.length_nil, sizeLine_eq, Nat.reduceAdd, Nat.reduceLeDiff, Nat.zero_add, decide_eq_true_eq, x_obj0, put0, put1, put2, ic0, ic1, ic2, ic3, ic4, ic5, ic6, ic7, ic8, ic9, ic10, ic11, ic12, ic13, ic14, ic15, ic16, ic17, ic18, ic19, ic20, ic21, ic22, ic23, Int.reduceEq, Int.reduceLT, Int.reduceLE, Int.reduceNeg, vB_var, vB_int, vB_str, vB_bl, vB_non, vB_glob, vB_tup, vB_lst, vB_dic0, vB_bin, vB_neg, vB_not, vB_and, vB_or, vB_cmp, vB_chain, vB_isN, vB_notN, vB_ifx, vB_sub, vB_slice, vB_call, vB_bi, vB_isi, vB_comp, vB_fmt, vB_fstr, vB_join, vB_own, rs_int, rs_str, rs_bl, rs_non, rs_tup, rs_lst, rs_dic, rs_scr, kFmt_ok, kJoin_ok, kJ_ok, kListM_ok, e_listM, e_fmt, e_fstr, e_join, j_nil, j_cons, kCmpC_ok, kCmpC_exc, s_ownAdd, s_appL, kOAdd_ok, kOAdd1_ok, addF_ok, sw_line_slide, sw_line_read, sw_line_try, sw_line_left, sw_line_right, sw_slide_line, sw_slide_read, sw_slide_try, sw_slide_left, sw_slide_right, sw_read_line, sw_read_slide, sw_read_try, sw_read_left, sw_read_right, sw_try_line, sw_try_slide, sw_try_read, sw_try_left, sw_try_right, sw_left_line, sw_left_slide, sw_left_read, sw_left_try, sw_left_right, sw_right_line, sw_right_slide, sw_right_read, sw_right_try, sw_right_left, it_lst, it_tup, kAppL_obj, kAppL1_ok, appF_ok, e_compI, cstep_ap, cst1_some, kCC_ok, kSome_ok, c_no, c_some, kCompI_ok, kCompE_ok, e_sset, e_lset, e_allL, i_seq, i_rng, i_rng2, i_enum, i_zip, kSeq_tup, kSeq_lst, kSeq_str, kSeq_exc, kRng2_ok, kEnum_lst, kZip_ok, kZip1_lst, vB_compI, vB_sset, vB_lset, vB_allL, rs_cdic, s_forI, s_ownExt, kForI_ok, kForI_exc, lstep_ap, lst1_some, kExt_lst, c_in, c_nin, s_aug, kAug_ok, au_add, au_sub, is_non_int, is_non_bool, is_non_str, is_non_tuple, is_non_list, is_non_dict, is_bl_int, is_bl_bool, is_bl_str, is_bl_tuple, is_bl_list, is_bl_dict, is_int_int, is_int_bool, is_int_str, is_int_tuple, is_int_list, is_int_dict, is_str_int, is_str_bool, is_str_str, is_str_tuple, is_str_list, is_str_dict, is_tup_int, is_tup_bool, is_tup_str, is_tup_tuple, is_tup_list, is_tup_dict, is_lst_int, is_lst_bool, is_lst_str, is_lst_tuple, is_lst_list, is_lst_dict, is_dic_int, is_dic_bool, is_dic_str, is_dic_tuple, is_dic_list, is_dic_dict, e_fld, e_prop, e_mcall, kFld_ok, kPrp_ok, kPrp1_some, kMth_ok, kMth1_some, kMth2_ok, rnox_ok, vB_fld, vB_prop, vB_mcall, s_setF, kSetF_ok, setFF_self, putD_nil])
local macro_rules | `(tactic| walk_at "pvh") => `(tactic| simp only [e_var, e_int, e_str, e_bl, e_non, e_glob, e_tup, e_lst, e_lstM, e_dic0, e_bin, e_neg, e_not, e_and, e_or, e_cmp, e_chain, e_isN, e_notN, e_ifx, e_sub, e_slice, e_call, e_bi, e_isi, e_comp, es_nil, es_cons, o_no, o_some, t_val, t_and, t_or, t_not, t_cmp, t_chain, t_isN, t_notN, kCons_ok, kCons_exc, kCons1_ok, kCons1_exc, kTup_ok, kTup_exc, kLst_ok, kLst_exc, kLstM_ok, kCall_ok, kCall_exc, kBin_ok, kBin_exc, kBin1_ok, kBin1_exc, kNeg_ok, kNot_ok, kNot_exc, kAnd_ok, kAnd_exc, kOr_ok, kOr_exc, kCmp_ok, kCmp_exc, kCmp1_ok, kCmp1_exc, kCh_ok, kCh1_ok, kCh2_some, kIf_ok, kIf_exc, kSub_ok, kSub_exc, kSub1_ok, kSub1_exc, kSl_ok, kSl1_ok, kSl2_ok, kBi_ok, kBi_exc, kIsi_ok, kTru_bl, kTru_exc, kTAnd_ok, kTAnd_exc, kTOr_ok, kTOr_exc, kTNot_ok, kTNot_exc, kTB_ok, kTB_exc, kInt_ok, kIsN_non, kNotN_non, ofO_some, ss_nil, ss_cons, s_expr, s_set, s_par, s_asg, s_putL, s_ownNew, s_ownApp, s_freeze, s_ret, s_retN, s_ite, s_whl, s_forN, s_forR, s_brk, s_cont, s_pass, s_raise, s_try, sq_nx, sq_rt, sq_bk, sq_ct, sq_exc, kExpr_ok, kExpr_exc, kSet_ok, kSet_exc, kPar_ok, kPar_exc, kPar1_ok, kPar1_exc, kAsg_ok, kAsg_exc, kPut_ok, kPut1_ok, kPut2_ok, kOwn_ok, kApp_ok, kRet_ok, kRet_exc, kSIf_ok, kSIf_exc, kFor_tup, kFor_lst, kRun_nx, kRun_rt, kRun_exc, kTry_ok, kTry_exc, nox_ok, eq_ii, eq_ss, si0, si1, si2, si3, si4, si5, si6, si7, si8, si9, si10, si11, si12, si13, si14, si15, b_add, b_sub, c_lt, c_le, c_gt, c_ge, eq_ii, eq_ss, c_eq, c_ne, k_abs, k_int, k_intB, k_lenT, k_lenL, k_lenS, x_tup, x_lst, gi0, si0, gi1, si1, gi2, si2, gi3, si3, gi4, si4, gi5, si5, gi6, si6, gi7, si7, gi8, si8, gi9, si9, gi10, si10, gi11, si11, gi12, si12, gi13, si13, gi14, si14, gi15, si15, ri0, ri1, ri2, ri3, ri4, ri5, ri6, ri7, ri8, ri9, ri10, ri11, ai0, ai1, ai2, ai3, ai4, ai5, ai6, ai7, ai8, ai9, List.map_cons, List.map_nil, List.cons_append, List.nil_append, List.append_nil, Option.map_some, R.bind_ok, Bool.not_true, Bool.not_false, if_true, if_false, Bool.false_eq_true, decide_true, decide_false, Nat.reduceSub, bindT, bindTs, List.length_cons, List.length_nil, sizeLine_eq, Nat.reduceAdd, Nat.reduceLeDiff, Nat.zero_add, decide_eq_true_eq, x_obj0, put0, put1, put2, ic0, ic1, ic2, ic3, ic4, ic5, ic6, ic7, ic8, ic9, ic10, ic11, ic12, ic13, ic14, ic15, ic16, ic17, ic18, ic19, ic20, ic21, ic22, ic23, Int.reduceEq, Int.reduceLT, Int.reduceLE, Int.reduceNeg, vB_var, vB_int, vB_str, vB_bl, vB_non, vB_glob, vB_tup, vB_lst, vB_dic0, vB_bin, vB_neg, vB_not, vB_and, vB_or, vB_cmp, vB_chain, vB_isN, vB_notN, vB_ifx, vB_sub, vB_slice, vB_call, vB_bi, vB_isi, vB_comp, vB_fmt, vB_fstr, vB_join, vB_own, rs_int, rs_str, rs_bl, rs_non, rs_tup, rs_lst, rs_dic, rs_scr, kFmt_ok, kJoin_ok, kJ_ok, kListM_ok, e_listM, e_fmt, e_fstr, e_join, j_nil, j_cons, kCmpC_ok, kCmpC_exc, s_ownAdd, s_appL, kOAdd_ok, kOAdd1_ok, addF_ok, sw_line_slide, sw_line_read, sw_line_try, sw_line_left, sw_line_right, sw_slide_line, sw_slide_read, sw_slide_try, sw_slide_left, sw_slide_right, sw_read_line, sw_read_slide, sw_read_try, sw_read_left, sw_read_right, sw_try_line, sw_try_slide, sw_try_read, sw_try_left, sw_try_right, sw_left_line, sw_left_slide, sw_left_read, sw_left_try, sw_left_right, sw_right_line, sw_right_slide, sw_right_read, sw_right_try, sw_right_left, it_lst, it_tup, kAppL_obj, kAppL1_ok, appF_ok, e_compI, cstep_ap, cst1_some, kCC_ok, kSome_ok, c_no, c_some, kCompI_ok, kCompE_ok, e_sset, e_lset, e_allL, i_seq, i_rng, i_rng2, i_enum, i_zip, kSeq_tup, kSeq_lst, kSeq_str, kSeq_exc, kRng2_ok, kEnum_lst, kZip_ok, kZip1_lst, vB_compI, vB_sset, vB_lset, vB_allL, rs_cdic, s_forI, s_ownExt, kForI_ok, kForI_exc, lstep_ap, lst1_some, kExt_lst, c_in, c_nin, s_aug, kAug_ok, au_add, au_sub, is_non_int, is_non_bool, is_non_str, is_non_tuple, is_non_list, is_non_dict, is_bl_int, is_bl_bool, is_bl_str, is_bl_tuple, is_bl_list, is_bl_dict, is_int_int, is_int_bool, is_int_str, is_int_tuple, is_int_list, is_int_dict, is_str_int, is_str_bool, is_str_str, is_str_tuple, is_str_list, is_str_dict, is_tup_int, is_tup_bool, is_tup_str, is_tup_tuple, is_tup_list, is_tup_dict, is_lst_int, is_lst_bool, is_lst_str, is_lst_tuple, is_lst_list, is_lst_dict, is_dic_int, is_dic_bool, is_dic_str, is_dic_tuple, is_dic_list, is_dic_dict, e_fld, e_prop, e_mcall, kFld_ok, kPrp_ok, kPrp1_some, kMth_ok, kMth1_some, kMth2_ok, rnox_ok, vB_fld, vB_prop, vB_mcall, s_setF, kSetF_ok, setFF_self, putD_nil, *])
def d_plus : Df := ⟨2, 2, [],
    (.cons (.ret (.call "fraction" (.cons (.bin .add (.bin .mul (.sub (.var 0) (.int 0)) (.sub (.var 1) (.int 1))) (.bin .mul (.sub (.var 1) (.int 0)) (.sub (.var 0) (.int 1)))) (.cons (.bin .mul (.sub (.var 0) (.int 1)) (.sub (.var 1) (.int 1))) .nil))))
    .nil), false⟩
def d_minus : Df := ⟨2, 2, [],
    (.cons (.ret (.call "fraction" (.cons (.bin .sub (.bin .mul (.sub (.var 0) (.int 0)) (.sub (.var 1) (.int 1))) (.bin .mul (.sub (.var 1) (.int 0)) (.sub (.var 0) (.int 1)))) (.cons (.bin .mul (.sub (.var 0) (.int 1)) (.sub (.var 1) (.int 1))) .nil))))
    .nil), false⟩
def d_times : Df := ⟨2, 2, [],
    (.cons (.ret (.call "fraction" (.cons (.bin .mul (.sub (.var 0) (.int 0)) (.sub (.var 1) (.int 0))) (.cons (.bin .mul (.sub (.var 0) (.int 1)) (.sub (.var 1) (.int 1))) .nil))))
    .nil), false⟩
def d_over : Df := ⟨2, 2, [],
    (.cons (.ret (.call "fraction" (.cons (.bin .mul (.sub (.var 0) (.int 0)) (.sub (.var 1) (.int 1))) (.cons (.bin .mul (.sub (.var 0) (.int 1)) (.sub (.var 1) (.int 0))) .nil))))
    .nil), false⟩
def d_compare : Df := ⟨3, 2, [],
    (.cons (.set 2 (.bin .sub (.bin .mul (.sub (.var 0) (.int 0)) (.sub (.var 1) (.int 1))) (.bin .mul (.sub (.var 1) (.int 0)) (.sub (.var 0) (.int 1)))))
    (.cons (.ret (.bin .sub (.bi .int (.cmp .gt (.var 2) (.int 0))) (.bi .int (.cmp .lt (.var 2) (.int 0)))))
    .nil)), false⟩
def d_floor_of : Df := ⟨1, 1, [],
    (.cons (.ret (.bin .fdiv (.sub (.var 0) (.int 0)) (.sub (.var 0) (.int 1))))
    .nil), false⟩
def d_part_of : Df := ⟨1, 1, [],
    (.cons (.ret (.tup (.cons (.bin .mod (.sub (.var 0) (.int 0)) (.sub (.var 0) (.int 1))) (.cons (.sub (.var 0) (.int 1)) .nil))))
    .nil), false⟩
def d_total_b1 : Ss := (.cons (.set 1 (.call "plus" (.cons (.var 1) (.cons (.var 2) .nil))))
    .nil)
def d_total : Df := ⟨3, 1, [],
    (.cons (.set 1 (.glob "ZERO"))
    (.cons (.for_ (.nm 2) (.var 0) d_total_b1)
    (.cons (.ret (.var 1))
    .nil))), true⟩
section
variable {C : Cn} {t : Tbl}
def pP (p : Int × Int) : D := .tup [.int p.1, .int p.2]
def fr (a b : Int) : Int × Int := (frN a b, frB a b)
theorem frD_eq (a b : Int) : frD a b = pP (fr a b) := rfl
theorem pow_up {x : Int} {j k : Nat} (h : x.natAbs < 2 ^ j) (hk : j ≤ k) : x.natAbs < 2 ^ k := Nat.lt_of_lt_of_le h (Nat.pow_le_pow_right (by decide) hk)
theorem div_le (a : Int) (g : Nat) : (a / (g : Int)).natAbs ≤ a.natAbs := Int.natAbs_ediv_le_natAbs a g
theorem frN_le (a b : Int) : (frN a b).natAbs ≤ a.natAbs := by
  unfold frN
  split
  · have := div_le (-a) (Int.gcd a b)
    rw [Int.natAbs_neg] at this
    exact this
  · exact div_le a _
theorem frB_le (a b : Int) : (frB a b).natAbs ≤ b.natAbs := by
  unfold frB
  split
  · have := div_le (-b) (Int.gcd a b)
    rw [Int.natAbs_neg] at this
    exact this
  · exact div_le b _
theorem frB_pos {a b : Int} (hb : b ≠ 0) : 0 < frB a b := by
  have hg : (0 : Int) < (Int.gcd a b : Nat) := by have := gcd_pos (a := a) hb; omega
  have hd : ((Int.gcd a b : Nat) : Int) ∣ b := Int.gcd_dvd_right a b
  unfold frB
  split
  · exact Int.ediv_pos_of_pos_of_dvd (by omega) (by omega) (Int.dvd_neg.mpr hd)
  · exact Int.ediv_pos_of_pos_of_dvd (by omega) (by omega) hd
theorem mul_up {x y : Int} {j k l : Nat} (h1 : x.natAbs < 2 ^ j) (h2 : y.natAbs < 2 ^ k) (h : j + k ≤ l) : (x * y).natAbs < 2 ^ l := by
  rw [Int.natAbs_mul]
  have h3 : x.natAbs * y.natAbs < 2 ^ j * 2 ^ k := Nat.mul_lt_mul'' h1 h2
  rw [← Nat.pow_add] at h3
  exact Nat.lt_of_lt_of_le h3 (Nat.pow_le_pow_right (by decide) h)
theorem add_up {x y : Int} {k : Nat} (h1 : x.natAbs < 2 ^ k) (h2 : y.natAbs < 2 ^ k) : (x + y).natAbs < 2 ^ (k + 1) := by
  rw [Nat.pow_succ]
  omega
theorem sub_up {x y : Int} {k : Nat} (h1 : x.natAbs < 2 ^ k) (h2 : y.natAbs < 2 ^ k) : (x - y).natAbs < 2 ^ (k + 1) := by
  rw [Nat.pow_succ]
  omega
structure Gd (p : Int × Int) : Prop where
  pos : 0 < p.2
  n : p.1.natAbs < 2 ^ 64
  b : p.2.natAbs < 2 ^ 64
theorem Gd.fr {a b : Int} (ha : a.natAbs < 2 ^ 64) (hb : b.natAbs < 2 ^ 64) (h0 : b ≠ 0) : Gd (fr a b) := ⟨frB_pos h0, Nat.lt_of_le_of_lt (frN_le a b) ha, Nat.lt_of_le_of_lt (frB_le a b) hb⟩
/-- what the sum comes to -/
def adF (p q : Int × Int) : Int × Int := fr (p.1 * q.2 + q.1 * p.2) (p.2 * q.2)
def suF (p q : Int × Int) : Int × Int := fr (p.1 * q.2 - q.1 * p.2) (p.2 * q.2)
def muF (p q : Int × Int) : Int × Int := fr (p.1 * q.1) (p.2 * q.2)
theorem plus_ok (hi : t "is_integer" = some d_is_integer) (hc : t "common_divisor" = some d_common_divisor) (hf : t "fraction" = some d_fraction) (ht : t "plus" = some d_plus) (n : Nat) {p q : Int × Int} (hp : 0 < p.2) (hz : p.2.natAbs < 2 ^ 7000) (g : Gd q) (st : S) :
    callN C t (n + 3) "plus" [pP p, pP q] st = .ok (pP (adF p q)) st := by
  rw [call_run ht rfl]
  have m1 : binD .mul (.int p.1) (.int q.2) = some (.int (p.1 * q.2)) := b_mulR g.b
  have m2 : binD .mul (.int q.1) (.int p.2) = some (.int (q.1 * p.2)) := b_mulL g.n
  have m3 : binD .mul (.int p.2) (.int q.2) = some (.int (p.2 * q.2)) := b_mulR g.b
  have f := fraction_ok (C := C) hi hc hf n (a := p.1 * q.2 + q.1 * p.2) (b := p.2 * q.2) (Int.ne_of_gt (Int.mul_pos hp g.pos)) (mul_up hz g.b (by decide)) st
  rw [frD_eq] at f
  clear hz g hp
  simp only [d_plus, pP, adF] at *
  walk_at "pvh"
theorem minus_ok (hi : t "is_integer" = some d_is_integer) (hc : t "common_divisor" = some d_common_divisor) (hf : t "fraction" = some d_fraction) (ht : t "minus" = some d_minus) (n : Nat) {p q : Int × Int} (hp : 0 < p.2) (hz : p.2.natAbs < 2 ^ 7000) (g : Gd q) (st : S) :
    callN C t (n + 3) "minus" [pP p, pP q] st = .ok (pP (suF p q)) st := by
  rw [call_run ht rfl]
  have m1 : binD .mul (.int p.1) (.int q.2) = some (.int (p.1 * q.2)) := b_mulR g.b
  have m2 : binD .mul (.int q.1) (.int p.2) = some (.int (q.1 * p.2)) := b_mulL g.n
  have m3 : binD .mul (.int p.2) (.int q.2) = some (.int (p.2 * q.2)) := b_mulR g.b
  have f := fraction_ok (C := C) hi hc hf n (a := p.1 * q.2 - q.1 * p.2) (b := p.2 * q.2) (Int.ne_of_gt (Int.mul_pos hp g.pos)) (mul_up hz g.b (by decide)) st
  rw [frD_eq] at f
  clear hz g hp
  simp only [d_minus, pP, suF] at *
  walk_at "pvh"
theorem times_ok (hi : t "is_integer" = some d_is_integer) (hc : t "common_divisor" = some d_common_divisor) (hf : t "fraction" = some d_fraction) (ht : t "times" = some d_times) (n : Nat) {p q : Int × Int} (hp : 0 < p.2) (hz : p.2.natAbs < 2 ^ 7000) (g : Gd q) (st : S) :
    callN C t (n + 3) "times" [pP p, pP q] st = .ok (pP (muF p q)) st := by
  rw [call_run ht rfl]
  have m1 : binD .mul (.int p.1) (.int q.1) = some (.int (p.1 * q.1)) := b_mulR g.n
  have m3 : binD .mul (.int p.2) (.int q.2) = some (.int (p.2 * q.2)) := b_mulR g.b
  have f := fraction_ok (C := C) hi hc hf n (a := p.1 * q.1) (b := p.2 * q.2) (Int.ne_of_gt (Int.mul_pos hp g.pos)) (mul_up hz g.b (by decide)) st
  rw [frD_eq] at f
  clear hz g hp
  simp only [d_times, pP, muF] at *
  walk_at "pvh"
theorem law_plus_ok (hf : t "_law_frac" = some d_law_frac) (ht : t "_law_plus" = some d_law_plus) (n : Nat) {p q : Int × Int} (hp : 0 < p.2) (hz : p.2.natAbs < 2 ^ 7000) (g : Gd q) (st : S) :
    callN C t (n + 2) "_law_plus" [pP p, pP q] st = .ok (pP (adF p q)) st := by
  rw [call_run ht rfl]
  have m1 : binD .mul (.int p.1) (.int q.2) = some (.int (p.1 * q.2)) := b_mulR g.b
  have m2 : binD .mul (.int q.1) (.int p.2) = some (.int (q.1 * p.2)) := b_mulL g.n
  have m3 : binD .mul (.int p.2) (.int q.2) = some (.int (p.2 * q.2)) := b_mulR g.b
  have f := law_frac_ok (C := C) hf n (a := p.1 * q.2 + q.1 * p.2) (b := p.2 * q.2) (Int.ne_of_gt (Int.mul_pos hp g.pos)) (mul_up hz g.b (by decide)) st
  rw [frD_eq] at f
  clear hz g hp
  simp only [d_law_plus, pP, adF] at *
  walk_at "pvh"
theorem law_minus_ok (hf : t "_law_frac" = some d_law_frac) (ht : t "_law_minus" = some d_law_minus) (n : Nat) {p q : Int × Int} (hp : 0 < p.2) (hz : p.2.natAbs < 2 ^ 7000) (g : Gd q) (st : S) :
    callN C t (n + 2) "_law_minus" [pP p, pP q] st = .ok (pP (suF p q)) st := by
  rw [call_run ht rfl]
  have m1 : binD .mul (.int p.1) (.int q.2) = some (.int (p.1 * q.2)) := b_mulR g.b
  have m2 : binD .mul (.int q.1) (.int p.2) = some (.int (q.1 * p.2)) := b_mulL g.n
  have m3 : binD .mul (.int p.2) (.int q.2) = some (.int (p.2 * q.2)) := b_mulR g.b
  have f := law_frac_ok (C := C) hf n (a := p.1 * q.2 - q.1 * p.2) (b := p.2 * q.2) (Int.ne_of_gt (Int.mul_pos hp g.pos)) (mul_up hz g.b (by decide)) st
  rw [frD_eq] at f
  clear hz g hp
  simp only [d_law_minus, pP, suF] at *
  walk_at "pvh"
theorem law_times_ok (hf : t "_law_frac" = some d_law_frac) (ht : t "_law_times" = some d_law_times) (n : Nat) {p q : Int × Int} (hp : 0 < p.2) (hz : p.2.natAbs < 2 ^ 7000) (g : Gd q) (st : S) :
    callN C t (n + 2) "_law_times" [pP p, pP q] st = .ok (pP (muF p q)) st := by
  rw [call_run ht rfl]
  have m1 : binD .mul (.int p.1) (.int q.1) = some (.int (p.1 * q.1)) := b_mulR g.n
  have m3 : binD .mul (.int p.2) (.int q.2) = some (.int (p.2 * q.2)) := b_mulR g.b
  have f := law_frac_ok (C := C) hf n (a := p.1 * q.1) (b := p.2 * q.2) (Int.ne_of_gt (Int.mul_pos hp g.pos)) (mul_up hz g.b (by decide)) st
  rw [frD_eq] at f
  clear hz g hp
  simp only [d_law_times, pP, muF] at *
  walk_at "pvh"
theorem law_part_ok (ht : t "_law_part" = some d_law_part) (n : Nat) {p : Int × Int} (hp : 0 < p.2) (st : S) : callN C t (n + 1) "_law_part" [pP p] st = .ok (pP (p.1 % p.2, p.2)) st := by
  rw [call_run ht rfl]
  have m1 : binD .mod (.int p.1) (.int p.2) = some (.int (p.1 % p.2)) := b_mod hp
  clear hp
  simp only [d_law_part, pP] at *
  walk_at "pvh"
theorem part_of_ok (ht : t "part_of" = some d_part_of) (n : Nat) {p : Int × Int} (hp : 0 < p.2) (st : S) : callN C t (n + 1) "part_of" [pP p] st = .ok (pP (p.1 % p.2, p.2)) st := by
  rw [call_run ht rfl]
  have m1 : binD .mod (.int p.1) (.int p.2) = some (.int (p.1 % p.2)) := b_mod hp
  clear hp
  simp only [d_part_of, pP] at *
  walk_at "pvh"
theorem floor_of_ok (ht : t "floor_of" = some d_floor_of) (n : Nat) {p : Int × Int} (hp : 0 < p.2) (hz : p.2.natAbs < 2 ^ 8000) (st : S) : callN C t (n + 1) "floor_of" [pP p] st = .ok (.int (p.1 / p.2)) st := by
  rw [call_run ht rfl]
  have m1 : binD .fdiv (.int p.1) (.int p.2) = some (.int (p.1 / p.2)) := b_fdiv hp (Nat.lt_trans (big_lt (by decide) hz) (by decide))
  clear hp hz
  simp only [d_floor_of, pP] at *
  walk_at "pvh"
def sgD (d : Int) : Int := (if 0 < d then 1 else 0) - (if d < 0 then 1 else 0)
theorem compare_ok (ht : t "compare" = some d_compare) (n : Nat) {p q : Int × Int} (g : Gd q) (st : S) : callN C t (n + 1) "compare" [pP p, pP q] st = .ok (.int (sgD (p.1 * q.2 - q.1 * p.2))) st := by
  rw [call_run ht rfl]
  have m1 : binD .mul (.int p.1) (.int q.2) = some (.int (p.1 * q.2)) := b_mulR g.b
  have m2 : binD .mul (.int q.1) (.int p.2) = some (.int (q.1 * p.2)) := b_mulL g.n
  clear g
  simp only [d_compare, pP, sgD] at *
  walk_at "pvh"
theorem over_ok (hi : t "is_integer" = some d_is_integer) (hc : t "common_divisor" = some d_common_divisor) (hf : t "fraction" = some d_fraction) (ht : t "over" = some d_over) (n : Nat) {p q : Int × Int} (hp : 0 < p.2) (hz : p.2.natAbs < 2 ^ 7000) (g : Gd q) (h0 : q.1 ≠ 0) (st : S) :
    callN C t (n + 3) "over" [pP p, pP q] st = .ok (pP (fr (p.1 * q.2) (p.2 * q.1))) st := by
  rw [call_run ht rfl]
  have m1 : binD .mul (.int p.1) (.int q.2) = some (.int (p.1 * q.2)) := b_mulR g.b
  have m3 : binD .mul (.int p.2) (.int q.1) = some (.int (p.2 * q.1)) := b_mulR g.n
  have f := fraction_ok (C := C) hi hc hf n (a := p.1 * q.2) (b := p.2 * q.1) (Int.mul_ne_zero (Int.ne_of_gt hp) h0) (mul_up hz g.n (by decide)) st
  rw [frD_eq] at f
  clear hz g hp
  simp only [d_over, pP] at *
  walk_at "pvh"
theorem over_no (hx : C.xn "NoFraction" = true) (hi : t "is_integer" = some d_is_integer) (hf : t "fraction" = some d_fraction) (ht : t "over" = some d_over) (n : Nat) {p q : Int × Int} (g : Gd q) (h0 : q.1 = 0) (st : S) :
    callN C t (n + 3) "over" [pP p, pP q] st = .exc ⟨"NoFraction", []⟩ st := by
  rw [call_run ht rfl]
  have m1 : binD .mul (.int p.1) (.int q.2) = some (.int (p.1 * q.2)) := b_mulR g.b
  have m3 : binD .mul (.int p.2) (.int 0) = some (.int 0) := by
    rw [b_mulR (by decide), Int.mul_zero]
  have f := fraction_no0 (C := C) hx hi hf n (i := p.1 * q.2) st
  clear g
  simp only [d_over, pP, h0] at *
  walk_at "pvh"
/-- a drawn fraction -/
theorem law_fraction_ok (hk : t "_law_take" = some d_law_take) (hn : t "_law_number" = some d_law_number) (hf : t "_law_frac" = some d_law_frac) (ht : t "_law_fraction" = some d_law_fraction) (n : Nat) {rest st : S} (dk : Deck rest st) :
    ∃ p st', callN C t (n + 3) "_law_fraction" [.obj 0] st = .ok (pP p) st' ∧ Gd p ∧ Deck rest st' := by
  rw [call_run ht rfl]
  have p18 : binD .pow (.int 10) (.int 18) = some (.int 1000000000000000000) := b_pow ⟨by decide, by decide, by decide⟩
  have p4 : binD .pow (.int 10) (.int 4) = some (.int 10000) := b_pow ⟨by decide, by decide, by decide⟩
  obtain ⟨k, st1, h1, a1, b1, dk1⟩ := take_ok (C := C) hk (n + 1) (l := 4) (by decide) (by decide) dk
  obtain ⟨v, st2, h2, a2, b2, dk2⟩ := number_ok (C := C) hk hn n a1 b1 dk1
  have main : ∀ l : Int, 0 < l → l ≤ 1000000000000000000 → L2.atI [D.int 4, .int 30, .int 10000, .int 1000000000000000000] k = some (.int l) →
      ∃ p st', kRun (evSs C (callN C t (n + 2)) d_law_fraction.body ([D.obj 0].map .val ++ List.replicate (d_law_fraction.n - d_law_fraction.np) .no) st) = .ok (pP p) st' ∧ Gd p ∧ Deck rest st' := by
    intro l hl hl2 hat
    obtain ⟨u, st3, h3, a3, b3, dk3⟩ := take_ok (C := C) hk (n + 1) (l := l) hl (pow_up (j := 64) (by omega) (by decide)) dk2
    have f := law_frac_ok (C := C) hf (n + 1) (a := v) (b := 1 + u) (by omega) (pow_up (j := 64) (by omega) (by decide)) st3
    refine ⟨fr v (1 + u), st3, ?_, Gd.fr (by omega) (by omega) (by omega), dk3⟩
    rw [frD_eq] at f
    clear dk dk1 dk2 dk3 hl hl2 a1 b1 a2 b2 a3 b3
    simp only [d_law_fraction]
    walk_at "pvh"
  have hc : k = 0 ∨ k = 1 ∨ k = 2 ∨ k = 3 := by omega
  rcases hc with rfl | rfl | rfl | rfl
  · exact main 4 (by decide) (by decide) ai0
  · exact main 30 (by decide) (by decide) ai1
  · exact main 10000 (by decide) (by decide) ai2
  · exact main 1000000000000000000 (by decide) (by decide) ai3
/-- the sum of some -/
def tot (p : Int × Int) : List (Int × Int) → Int × Int
  | [] => p
  | q :: xs => tot (adF p q) xs
structure Ac (m : Nat) (p : Int × Int) : Prop where
  pos : 0 < p.2
  n : p.1.natAbs < 2 ^ (65 * m)
  b : p.2.natAbs < 2 ^ (65 * m)
theorem Ac.step {m : Nat} {p q : Int × Int} (h : Ac m p) (g : Gd q) : Ac (m + 1) (adF p q) := by
  have e : 65 * (m + 1) = (65 * m + 64) + 1 := by omega
  refine ⟨frB_pos (Int.ne_of_gt (Int.mul_pos h.pos g.pos)), Nat.lt_of_le_of_lt (frN_le _ _) ?_, Nat.lt_of_le_of_lt (frB_le _ _) (mul_up h.b g.b (by omega))⟩
  rw [e]
  exact add_up (mul_up h.n g.b (Nat.le_refl _)) (mul_up g.n h.b (by omega))
theorem Ac.tot {xs : List (Int × Int)} : ∀ {m : Nat} {p : Int × Int}, Ac m p → (∀ q ∈ xs, Gd q) → Ac (m + xs.length) (tot p xs) := by
  induction xs with
  | nil => intro m p h _; exact h
  | cons q xs ih =>
    intro m p h hx
    have := ih (h.step (hx q List.mem_cons_self)) fun r hr => hx r (List.mem_cons_of_mem _ hr)
    rw [List.length_cons, show m + (xs.length + 1) = m + 1 + xs.length by omega]
    exact this
theorem Ac.zero : Ac 1 (0, 1) := ⟨by decide, by decide, by decide⟩
/-- the loop that adds -/
theorem loop_tot {Φ : Fe} {body : Ss} {v0 : Sl} {tl : DE} {st : S} (hb : ∀ p q : Int × Int, 0 < p.2 → p.2.natAbs < 2 ^ 7000 → Gd q → evSs C Φ body (v0 :: .val (pP p) :: .val (pP q) :: tl) st = .ok (.nx (v0 :: .val (pP (adF p q)) :: .val (pP q) :: tl)) st) :
    ∀ (xs : List (Int × Int)) (m : Nat) (p : Int × Int) (s2 : Sl), (∀ q ∈ xs, Gd q) → Ac m p → m + xs.length ≤ 100 → ∃ s2', loopS (fun d env s => evSs C Φ body (env.set 2 (.val d)) s) (xs.map pP) (v0 :: .val (pP p) :: s2 :: tl) st = .ok (.nx (v0 :: .val (pP (tot p xs)) :: s2' :: tl)) st
  | [], m, p, s2, _, _, _ => ⟨s2, rfl⟩
  | q :: xs, m, p, s2, hx, ha, hm => by
    have gq := hx q List.mem_cons_self
    have h1 := hb p q ha.pos (pow_up ha.b (by rw [List.length_cons] at hm; omega)) gq
    obtain ⟨s2', h2⟩ := loop_tot hb xs (m + 1) (adF p q) (.val (pP q)) (fun r hr => hx r (List.mem_cons_of_mem _ hr)) (ha.step gq) (by rw [List.length_cons] at hm; omega)
    refine ⟨s2', ?_⟩
    rw [List.map_cons]
    exact (loop_go h1).trans h2
theorem total_ok (hz : C.con "ZERO" = some (pP (0, 1))) (hi : t "is_integer" = some d_is_integer) (hc : t "common_divisor" = some d_common_divisor) (hf : t "fraction" = some d_fraction) (hp : t "plus" = some d_plus) (ht : t "total" = some d_total) (n : Nat) {xs : List (Int × Int)} (hx : ∀ q ∈ xs, Gd q) (hl : xs.length ≤ 99) (st : S) :
    callN C t (n + 4) "total" (xs.map pP) st = .ok (pP (tot (0, 1) xs)) st := by
  have e : (xs.map pP).take (d_total.np - 1) ++ [D.tup ((xs.map pP).drop (d_total.np - 1))] = [D.tup (xs.map pP)] := rfl
  rw [call_va ht rfl (by rw [List.length_map, sizeLine_eq]; omega) rfl, e]
  obtain ⟨s2', h⟩ := loop_tot (C := C) (Φ := callN C t (n + 3)) (body := d_total_b1) (v0 := .val (.tup (xs.map pP))) (tl := []) (st := st) (fun p q h1 h2 h3 => by
    have h := plus_ok (C := C) hi hc hf hp n h1 h2 h3 st
    simp only [d_total_b1]
    clear h1 h2 h3
    walk_at "pvh") xs 1 (0, 1) .no hx .zero (by omega)
  simp only [d_total]
  clear hx hl hi hc hf hp e
  walk_at "pvh"
/-- the text of a pair -/
def pr (p : Int × Int) : Str := PyData.shown (.tuple [.int p.1, .int p.2])
theorem repr_pP {p : Int × Int} (ha : p.1.natAbs < 2 ^ 1900) (hb : p.2.natAbs < 2 ^ 1900) (s : S) : biD s .repr (pP p) = some (.str (pr p)) := by
  refine k_repr (p := .tuple [.int p.1, .int p.2]) rfl ?_ (by simp only [PyData.depth, PyData.depthAll]; decide) (by simp only [nod, nods]; decide)
  simp only [lf, lfs, decide_eq_true ha, decide_eq_true hb, Bool.and_self]
theorem gcd_mulr (a b c : Int) : (Int.gcd (a * c) (b * c) : Nat) = Int.gcd a b * c.natAbs := by
  show Nat.gcd (a * c).natAbs (b * c).natAbs = _
  rw [Int.natAbs_mul, Int.natAbs_mul, Nat.gcd_mul_right]
  rfl
theorem fr_mul {a b c : Int} (hc : c ≠ 0) (hb0 : b ≠ 0) : fr (a * c) (b * c) = fr a b := by
  have hg := gcd_mulr a b c
  unfold fr frN frB
  rw [hg]
  rcases Int.lt_or_gt_of_ne hc with h | h
  · have e : ((Int.gcd a b * c.natAbs : Nat) : Int) = (Int.gcd a b : Int) * (-c) := by
      rw [Int.natCast_mul, Int.ofNat_natAbs_of_nonpos (Int.le_of_lt h)]
    rw [e]
    have hc' : 0 < -c := by omega
    by_cases hb : b < 0
    · have : ¬ b * c < 0 := Int.not_lt.mpr (Int.le_of_lt (Int.mul_pos_of_neg_of_neg hb h))
      simp only [hb, this, if_true, if_false]
      rw [show a * c = (-a) * (-c) by rw [Int.neg_mul_neg], show b * c = (-b) * (-c) by rw [Int.neg_mul_neg], Int.mul_ediv_mul_of_pos_left _ _ hc', Int.mul_ediv_mul_of_pos_left _ _ hc']
    · have : b * c < 0 := Int.mul_neg_of_pos_of_neg (by omega) h
      simp only [hb, this, if_true, if_false]
      rw [show -(a * c) = a * (-c) by rw [Int.mul_neg], show -(b * c) = b * (-c) by rw [Int.mul_neg], Int.mul_ediv_mul_of_pos_left _ _ hc', Int.mul_ediv_mul_of_pos_left _ _ hc']
  · have e : ((Int.gcd a b * c.natAbs : Nat) : Int) = (Int.gcd a b : Int) * c := by
      rw [Int.natCast_mul, Int.natAbs_of_nonneg (Int.le_of_lt h)]
    rw [e]
    by_cases hb : b < 0
    · have : b * c < 0 := Int.mul_neg_of_neg_of_pos hb h
      simp only [hb, this, if_true]
      rw [show -(a * c) = (-a) * c by rw [Int.neg_mul], show -(b * c) = (-b) * c by rw [Int.neg_mul], Int.mul_ediv_mul_of_pos_left _ _ h, Int.mul_ediv_mul_of_pos_left _ _ h]
    · have : ¬ b * c < 0 := Int.not_lt.mpr (Int.mul_nonneg (by omega) (Int.le_of_lt h))
      simp only [hb, this, if_false]
      rw [Int.mul_ediv_mul_of_pos_left _ _ h, Int.mul_ediv_mul_of_pos_left _ _ h]
theorem fr_scale {a b : Int} (hb : b ≠ 0) : ∃ c, c ≠ 0 ∧ a = (fr a b).1 * c ∧ b = (fr a b).2 * c := by
  have hg : (0 : Int) < (Int.gcd a b : Nat) := by have := gcd_pos (a := a) hb; omega
  have h1 : ((Int.gcd a b : Nat) : Int) ∣ a := Int.gcd_dvd_left a b
  have h2 : ((Int.gcd a b : Nat) : Int) ∣ b := Int.gcd_dvd_right a b
  by_cases h : b < 0
  · refine ⟨-(Int.gcd a b : Nat), by omega, ?_, ?_⟩
    · simp only [fr, frN, h, if_true]
      rw [Int.mul_neg, Int.ediv_mul_cancel (Int.dvd_neg.mpr h1), Int.neg_neg]
    · simp only [fr, frB, h, if_true]
      rw [Int.mul_neg, Int.ediv_mul_cancel (Int.dvd_neg.mpr h2), Int.neg_neg]
  · refine ⟨(Int.gcd a b : Nat), by omega, ?_, ?_⟩
    · simp only [fr, frN, h, if_false]
      rw [Int.ediv_mul_cancel h1]
    · simp only [fr, frB, h, if_false]
      rw [Int.ediv_mul_cancel h2]
theorem mu_inv {p q : Int × Int} (hp : p.2 ≠ 0) (h0 : q.1 ≠ 0) : muF p (fr q.2 q.1) = fr (p.1 * q.2) (p.2 * q.1) := by
  obtain ⟨c, hc, e1, e2⟩ := fr_scale (a := q.2) h0
  have hr : (fr q.2 q.1).2 ≠ 0 := Int.ne_of_gt (frB_pos h0)
  unfold muF
  generalize fr q.2 q.1 = r at *
  rw [e1, e2, ← Int.mul_assoc, ← Int.mul_assoc, fr_mul hc (Int.mul_ne_zero hp hr)]
end
end PV

set_option Elab.async false
set_option linter.all false
set_option maxRecDepth 100000
set_option maxHeartbeats 1000000
set_option exponentiation.threshold 30000
namespace PV
open PySem PySem.Spec PyProof.Rows L2
local macro_rules | `(tactic| walk_at "pv") => `(tactic| simp only [e_var, e_int, e_str, e_bl, e_non, e_glob, e_tup, e_lst, e_lstM, e_dic0, e_bin, e_neg, e_not, e_and, e_or, e_cmp, e_chain, e_isN, e_notN, e_ifx, e_sub, e_slice, e_call, e_bi, e_isi, e_comp, es_nil, es_cons, o_no, o_some, t_val, t_and, t_or, t_not, t_cmp, t_chain, t_isN, t_notN, kCons_ok, kCons_exc, kCons1_ok, kCons1_exc, kTup_ok, kTup_exc, kLst_ok, kLst_exc, kLstM_ok, kCall_ok, kCall_exc, kBin_ok, kBin_exc, kBin1_ok, kBin1_exc, kNeg_ok, kNot_ok, kNot_exc, kAnd_ok, kAnd_exc, kOr_ok, kOr_exc, kCmp_ok, kCmp_exc, kCmp1_ok, kCmp1_exc, kCh_ok, kCh1_ok, kCh2_some, kIf_ok, kIf_exc, kSub_ok, kSub_exc, kSub1_ok, kSub1_exc, kSl_ok, kSl1_ok, kSl2_ok, kBi_ok, kBi_exc, kIsi_ok, kTru_bl, kTru_exc, kTAnd_ok, kTAnd_exc, kTOr_ok, kTOr_exc, kTNot_ok, kTNot_exc, kTB_ok, kTB_exc, kInt_ok, kIsN_non, kNotN_non, ofO_some, ss_nil, ss_cons, s_expr, s_set, s_par, s_asg, s_putL, s_ownNew, s_ownApp, s_freeze, s_ret, s_retN, s_ite, s_whl, s_forN, s_forR, s_brk, s_cont, s_pass, s_raise, s_try, sq_nx, sq_rt, sq_bk, sq_ct, sq_exc, kExpr_ok, kExpr_exc, kSet_ok, kSet_exc, kPar_ok, kPar_exc, kPar1_ok, kPar1_exc, kAsg_ok, kAsg_exc, kPut_ok, kPut1_ok, kPut2_ok, kOwn_ok, kApp_ok, kRet_ok, kRet_exc, kSIf_ok, kSIf_exc, kFor_tup, kFor_lst, kRun_nx, kRun_rt, kRun_exc, kTry_ok, kTry_exc, nox_ok, eq_ii, eq_ss, si0, si1, si2, si3, si4, si5, si6, si7, si8, si9, si10, si11, si12, si13, si14, si15, b_add, b_sub, c_lt, c_le, c_gt, c_ge, eq_ii, eq_ss, c_eq, c_ne, k_abs, k_int, k_intB, k_lenT, k_lenL, k_lenS, x_tup, x_lst, gi0, si0, gi1, si1, gi2, si2, gi3, si3, gi4, si4, gi5, si5, gi6, si6, gi7, si7, gi8, si8, gi9, si9, gi10, si10, gi11, si11, gi12, si12, gi13, si13, gi14, si14, gi15, si15, ri0, ri1, ri2, ri3, ri4, ri5, ri6, ri7, ri8, ri9, ri10, ri11, ai0, ai1, ai2, ai3, ai4, ai5, ai6, ai7, ai8, ai9, List.map_cons, List.map_nil, List.cons_append, List.nil_append, List.append_nil, Option.map_some, R.bind_ok, Bool.not_true, Bool.not_false, if_true, if_false, Bool.false_eq_true, decide_true, decide_false, Nat.reduceSub, bindT, bindTs, List.length_cons, List.length_nil, sizeLine_eq, Nat.reduceAdd, Nat.reduceLeDiff, Nat.zero_add, decide_eq_true_eq, x_obj0, put0, put1, put2, ic0, ic1, ic2, ic3, ic4, ic5, ic6, ic7, ic8, ic9, ic10, ic11, ic12, ic13, ic14, ic15, ic16, ic17, ic18, ic19, ic20, ic21, ic22, ic23, Int.reduceEq, Int.reduceLT, Int.reduceLE, Int.reduceNeg, vB_var, vB_int, vB_str, vB_bl, vB_non, vB_glob, vB_tup, vB_lst, vB_dic0, vB_bin, vB_neg, vB_not, vB_and, vB_or, vB_cmp, vB_chain, vB_isN, vB_notN, vB_ifx, vB_sub, vB_slice, vB_call, vB_bi, vB_isi, vB_comp, vB_fmt, vB_fstr, vB_join, vB_own, rs_int, rs_str, rs_bl, rs_non, rs_tup, rs_lst, rs_dic, rs_scr, kFmt_ok, kJoin_ok, kJ_ok, kListM_ok, e_listM, e_fmt, e_fstr, e_join, j_nil, j_cons, kCmpC_ok, kCmpC_exc, s_ownAdd, s_appL, kOAdd_ok, kOAdd1_ok, addF_ok, sw_line_slide, sw_line_read, sw_line_try, sw_line_left, sw_line_right, sw_slide_line, sw_slide_read, sw_slide_try, sw_slide_left, sw_slide_right, sw_read_line, sw_read_slide, sw_read_try, sw_read_left, sw_read_right, sw_try_line, sw_try_slide, sw_try_read, sw_try_left, sw_try_right, sw_left_line, sw_left_slide, sw_left_read, sw_left_try, sw_left_right, sw_right_line, sw_right_slide, sw_right_read, sw_right_try, sw_right_left, it_lst, it_tup, kAppL_obj, kAppL1_ok, appF_ok, e_compI, cstep_ap, cst1_some, kCC_ok, kSome_ok, c_no, c_some, kCompI_ok, kCompE_ok, e_sset, e_lset, e_allL, i_seq, i_rng, i_rng2, i_enum, i_zip, kSeq_tup, kSeq_lst, kSeq_str, kSeq_exc, kRng2_ok, kEnum_lst, kZip_ok, kZip1_lst, vB_compI, vB_sset, vB_lset, vB_allL, rs_cdic, s_forI, s_ownExt, kForI_ok, kForI_exc, lstep_ap, lst1_some, kExt_lst, c_in, c_nin, s_aug, kAug_ok, au_add, au_sub, is_non_int, is_non_bool, is_non_str, is_non_tuple, is_non_list, is_non_dict, is_bl_int, is_bl_bool, is_bl_str, is_bl_tuple, is_bl_list, is_bl_dict, is_int_int, is_int_bool, is_int_str, is_int_tuple, is_int_list, is_int_dict, is_str_int, is_str_bool, is_str_str, is_str_tuple, is_str_list, is_str_dict, is_tup_int, is_tup_bool, is_tup_str, is_tup_tuple, is_tup_list, is_tup_dict, is_lst_int, is_lst_bool, is_lst_str, is_lst_tuple, is_lst_list, is_lst_dict, is_dic_int, is_dic_bool, is_dic_str, is_dic_tuple, is_dic_list, is_dic_dict, e_fld, e_prop, e_mcall, kFld_ok, kPrp_ok, kPrp1_some, kMth_ok, kMth1_some, kMth2_ok, rnox_ok, vB_fld, vB_prop, vB_mcall, s_setF, kSetF_ok, setFF_self, putD_nil])
local macro_rules | `(tactic| walk_at "pvh") => `(tactic| simp only [e_var, e_int, e_str, e_bl, e_non, e_glob, e_tup, e_lst, e_lstM, e_dic0, e_bin, e_neg, e_not, e_and, e_or, e_cmp, e_chain, e_isN, e_notN, e_ifx, e_sub, e_slice, e_call, e_bi, e_isi, e_comp, es_nil, es_cons, o_no, o_some, t_val, t_and, t_or, t_not, t_cmp, t_chain, t_isN, t_notN, kCons_ok, kCons_exc, kCons1_ok, kCons1_exc, kTup_ok, kTup_exc, kLst_ok, kLst_exc, kLstM_ok, kCall_ok, kCall_exc, kBin_ok, kBin_exc, kBin1_ok, kBin1_exc, kNeg_ok, kNot_ok, kNot_exc, kAnd_ok, kAnd_exc, kOr_ok, kOr_exc, kCmp_ok, kCmp_exc, kCmp1_ok, kCmp1_exc, kCh_ok, kCh1_ok, kCh2_some, kIf_ok, kIf_exc, kSub_ok, kSub_exc, kSub1_ok, kSub1_exc, kSl_ok, kSl1_ok, kSl2_ok, kBi_ok, kBi_exc, kIsi_ok, kTru_bl, kTru_exc, kTAnd_ok, kTAnd_exc, kTOr_ok, kTOr_exc, kTNot_ok, kTNot_exc, kTB_ok, kTB_exc, kInt_ok, kIsN_non, kNotN_non, ofO_some, ss_nil, ss_cons, s_expr, s_set, s_par, s_asg, s_putL, s_ownNew, s_ownApp, s_freeze, s_ret, s_retN, s_ite, s_whl, s_forN, s_forR, s_brk, s_cont, s_pass, s_raise, s_try, sq_nx, sq_rt, sq_bk, sq_ct, sq_exc, kExpr_ok, kExpr_exc, kSet_ok, kSet_exc, kPar_ok, kPar_exc, kPar1_ok, kPar1_exc, kAsg_ok, kAsg_exc, kPut_ok, kPut1_ok, kPut2_ok, kOwn_ok, kApp_ok, kRet_ok, kRet_exc, kSIf_ok, kSIf_exc, kFor_tup, kFor_lst, kRun_nx, kRun_rt, kRun_exc, kTry_ok, kTry_exc, nox_ok, eq_ii, eq_ss, si0, si1, si2, si3, si4, si5, si6, si7, si8, si9, si10, si11, si12, si13, si14, si15, b_add, b_sub, c_lt, c_le, c_gt, c_ge, eq_ii, eq_ss, c_eq, c_ne, k_abs, k_int, k_intB, k_lenT, k_lenL, k_lenS, x_tup, x_lst, gi0, si0, gi1, si1, gi2, si2, gi3, si3, gi4, si4, gi5, si5, gi6, si6, gi7, si7, gi8, si8, gi9, si9, gi10, si10, gi11, si11, gi12, si12, gi13, si13, gi14, si14, gi15, si15, ri0, ri1, ri2, ri3, ri4, ri5, ri6, ri7, ri8, ri9, ri10, ri11, ai0, ai1, ai2, ai3, ai4, ai5, ai6, ai7, ai8, ai9, List.map_cons, List.map_nil, List.cons_append, List.nil_append, List.append_nil, Option.map_some, R.bind_ok, Bool.not_true, Bool.not_false, if_true, if_false, Bool.false_eq_true, decide_true, decide_false, Nat.reduceSub, bindT, bindTs, List.length_cons, List.length_nil, sizeLine_eq, Nat.reduceAdd, Nat.reduceLeDiff, Nat.zero_add, decide_eq_true_eq, x_obj0, put0, put1, put2, ic0, ic1, ic2, ic3, ic4, ic5, ic6, ic7, ic8, ic9, ic10, ic11, ic12, ic13, ic14, ic15, ic16, ic17, ic18, ic19, ic20, ic21, ic22, ic23, Int.reduceEq, Int.reduceLT, Int.reduceLE, Int.reduceNeg, vB_var, vB_int, vB_str, vB_bl, vB_non, vB_glob, vB_tup, vB_lst, vB_dic0, vB_bin, vB_neg, vB_not, vB_and, vB_or, vB_cmp, vB_chain, vB_isN, vB_notN, vB_ifx, vB_sub, vB_slice, vB_call, vB_bi, vB_isi, vB_comp, vB_fmt, vB_fstr, vB_join, vB_own, rs_int, rs_str, rs_bl, rs_non, rs_tup, rs_lst, rs_dic, rs_scr, kFmt_ok, kJoin_ok, kJ_ok, kListM_ok, e_listM, e_fmt, e_fstr, e_join, j_nil, j_cons, kCmpC_ok, kCmpC_exc, s_ownAdd, s_appL, kOAdd_ok, kOAdd1_ok, addF_ok, sw_line_slide, sw_line_read, sw_line_try, sw_line_left, sw_line_right, sw_slide_line, sw_slide_read, sw_slide_try, sw_slide_left, sw_slide_right, sw_read_line, sw_read_slide, sw_read_try, sw_read_left, sw_read_right, sw_try_line, sw_try_slide, sw_try_read, sw_try_left, sw_try_right, sw_left_line, sw_left_slide, sw_left_read, sw_left_try, sw_left_right, sw_right_line, sw_right_slide, sw_right_read, sw_right_try, sw_right_left, it_lst, it_tup, kAppL_obj, kAppL1_ok, appF_ok, e_compI, cstep_ap, cst1_some, kCC_ok, kSome_ok, c_no, c_some, kCompI_ok, kCompE_ok, e_sset, e_lset, e_allL, i_seq, i_rng, i_rng2, i_enum, i_zip, kSeq_tup, kSeq_lst, kSeq_str, kSeq_exc, kRng2_ok, kEnum_lst, kZip_ok, kZip1_lst, vB_compI, vB_sset, vB_lset, vB_allL, rs_cdic, s_forI, s_ownExt, kForI_ok, kForI_exc, lstep_ap, lst1_some, kExt_lst, c_in, c_nin, s_aug, kAug_ok, au_add, au_sub, is_non_int, is_non_bool, is_non_str, is_non_tuple, is_non_list, is_non_dict, is_bl_int, is_bl_bool, is_bl_str, is_bl_tuple, is_bl_list, is_bl_dict, is_int_int, is_int_bool, is_int_str, is_int_tuple, is_int_list, is_int_dict, is_str_int, is_str_bool, is_str_str, is_str_tuple, is_str_list, is_str_dict, is_tup_int, is_tup_bool, is_tup_str, is_tup_tuple, is_tup_list, is_tup_dict, is_lst_int, is_lst_bool, is_lst_str, is_lst_tuple, is_lst_list, is_lst_dict, is_dic_int, is_dic_bool, is_dic_str, is_dic_tuple, is_dic_list, is_dic_dict, e_fld, e_prop, e_mcall, kFld_ok, kPrp_ok, kPrp1_some, kMth_ok, kMth1_some, kMth2_ok, rnox_ok, vB_fld, vB_prop, vB_mcall, s_setF, kSetF_ok, setFF_self, putD_nil, *])
def d_law_mantissa : Df := ⟨2, 1, [],
    (.cons (.set 1 (.sub (.tup (.cons (.int 1) (.cons (.int 2) (.cons (.int 3) (.cons (.int 4) (.cons (.int 5) (.cons (.int 6) (.cons (.int 8) (.cons (.int 12) (.cons (.int 30) (.cons (.int 97) (.cons (.int 1000) (.cons (.bin .pow (.int 10) (.int 6)) .nil))))))))))))) (.call "_law_take" (.cons (.var 0) (.cons (.int 12) .nil)))))
    (.cons (.ret (.call "_law_frac" (.cons (.call "_law_take" (.cons (.var 0) (.cons (.var 1) .nil))) (.cons (.var 1) .nil))))
    .nil)), false⟩
def d_law_names_b1 : Ss := (.cons (.set 5 (.bin .add (.var 5) (.sub (.var 1) (.call "_law_take" (.cons (.var 0) (.cons (.int 26) .nil))))))
    .nil)
def d_law_names_b2 : Ss := (.cons (.set 5 (.sub (.var 1) (.bin .mod (.bi .int (.bin .add (.var 2) (.bin .mul (.int 7) (.var 4)))) (.int 26))))
    (.cons (.forR 6 (.call "_law_take" (.cons (.var 0) (.cons (.int 3) .nil))) d_law_names_b1)
    (.cons (.ownApp 3 (.var 5))
    .nil)))
def d_law_names : Df := ⟨7, 1, [],
    (.cons (.set 1 (.str "abcdefghijklmnopqrstuvwxyz"))
    (.cons (.set 2 (.call "_law_take" (.cons (.var 0) (.cons (.int 26) .nil))))
    (.cons (.ownNew 3 .nil)
    (.cons (.forR 4 (.int 5) d_law_names_b2)
    (.cons (.freeze 3)
    (.cons (.ret (.var 3))
    .nil)))))), false⟩
def d_law_scales_b1 : Ss := (.cons (.set 6 (.bin .add (.sub (.var 1) (.bin .mod (.bi .int (.bin .add (.var 2) (.bin .mul (.int 5) (.var 4)))) (.int 26))) (.sub (.tup (.cons (.str "") (.cons (.str "I") (.cons (.str "FX") .nil)))) (.call "_law_take" (.cons (.var 0) (.cons (.int 3) .nil))))))
    (.cons (.set 7 (.sub (.tup (.cons (.int 1) (.cons (.int 2) (.cons (.neg (.int 1)) (.cons (.int 3) (.cons (.int 1) (.cons (.neg (.int 2)) (.cons (.int 1) (.cons (.neg (.int 3)) .nil))))))))) (.call "_law_take" (.cons (.var 0) (.cons (.int 8) .nil)))))
    (.cons (.set 8 (.ifx (.cmp .eq (.call "_law_take" (.cons (.var 0) (.cons (.int 3) .nil))) (.int 0)) (.call "_law_mantissa" (.cons (.var 0) .nil)) (.tup (.cons (.int 0) (.cons (.int 1) .nil)))))
    (.cons (.ownApp 3 (.tup (.cons (.var 6) (.cons (.var 7) (.cons (.var 8) .nil)))))
    .nil))))
def d_law_scales : Df := ⟨9, 1, [],
    (.cons (.set 1 (.str "ABCDEFGHIJKLMNOPQRSTUVWXYZ"))
    (.cons (.set 2 (.call "_law_take" (.cons (.var 0) (.cons (.int 26) .nil))))
    (.cons (.ownNew 3 .nil)
    (.cons (.forR 4 (.bin .add (.int 2) (.call "_law_take" (.cons (.var 0) (.cons (.int 3) .nil)))) d_law_scales_b1)
    (.cons (.set 5 (.bin .add (.int 1) (.call "_law_take" (.cons (.var 0) (.cons (.bin .sub (.bi .len (.own 3)) (.int 1)) .nil)))))
    (.cons (.ret (.tup (.cons (.bi .tuple (.slice (.own 3) .no (.some (.var 5)))) (.cons (.bi .tuple (.slice (.own 3) (.some (.var 5)) .no)) .nil))))
    .nil)))))), false⟩
def d_law_setting : Df := ⟨9, 4, [],
    (.cons (.asg (.tup (.cons (.nm 6) (.cons (.nm 7) (.cons (.nm 8) .nil)))) (.sub (.var 1) (.call "_law_take" (.cons (.var 0) (.cons (.bi .len (.var 1)) .nil)))))
    (.cons (.set 4 (.call "_law_take" (.cons (.var 0) (.cons (.bi .abs (.var 7)) .nil))))
    (.cons (.set 5 (.call "_law_take" (.cons (.var 0) (.cons (.int 5) .nil))))
    (.cons (.ite (.cmp .eq (.var 5) (.int 0))
    (.cons (.ret (.tup (.cons (.var 2) (.cons (.var 6) (.cons (.int 0) (.cons (.sub (.tup (.cons (.str "left") (.cons (.str "right") .nil))) (.call "_law_take" (.cons (.var 0) (.cons (.int 2) .nil)))) .nil))))))
    .nil)
    .nil)
    (.cons (.ite (.cmp .eq (.var 5) (.int 1))
    (.cons (.ret (.tup (.cons (.var 2) (.cons (.var 6) (.cons (.var 4) (.cons (.call "_law_mantissa" (.cons (.var 0) .nil)) .nil))))))
    .nil)
    .nil)
    (.cons (.ret (.tup (.cons (.var 2) (.cons (.var 6) (.cons (.var 4) (.cons (.sub (.var 3) (.call "_law_take" (.cons (.var 0) (.cons (.bi .len (.var 3)) .nil)))) .nil))))))
    .nil)))))), false⟩
def d_law_plain_b1 : Ss := (.cons (.ite (.cmp .eq (.call "_law_take" (.cons (.var 0) (.cons (.int 2) .nil))) (.int 0))
    (.cons (.ownApp 4 (.call "_law_setting" (.cons (.var 0) (.cons (.sub (.var 1) (.int 1)) (.cons (.str "slide") (.cons (.var 2) .nil))))))
    .nil)
    (.cons (.ownApp 4 (.call "_law_setting" (.cons (.var 0) (.cons (.bin .add (.sub (.var 1) (.int 0)) (.sub (.var 1) (.int 1))) (.cons (.str "line") (.cons (.var 2) .nil))))))
    .nil))
    .nil)
def d_law_plain : Df := ⟨6, 4, [],
    (.cons (.ownNew 4 .nil)
    (.cons (.forR 5 (.var 3) d_law_plain_b1)
    (.cons (.ret (.bi .tuple (.own 4)))
    .nil))), false⟩
def d_law_read : Df := ⟨3, 3, [],
    (.cons (.ret (.tup (.cons (.str "read") (.cons (.sub (.sub (.bin .add (.sub (.var 1) (.int 0)) (.sub (.var 1) (.int 1))) (.call "_law_take" (.cons (.var 0) (.cons (.bi .len (.bin .add (.sub (.var 1) (.int 0)) (.sub (.var 1) (.int 1)))) .nil)))) (.int 0)) (.cons (.var 2) .nil)))))
    .nil), false⟩
def d_law_working : Df := ⟨12, 4, [],
    (.cons (.set 4 (.call "_law_take" (.cons (.var 0) (.cons (.int 5) .nil))))
    (.cons (.set 5 (.listM (.var 2)))
    (.cons (.set 6 (.call "_law_plain" (.cons (.var 0) (.cons (.var 1) (.cons (.var 5) (.cons (.bin .add (.int 1) (.call "_law_take" (.cons (.var 0) (.cons (.int 2) .nil)))) .nil))))))
    (.cons (.ite (.cmp .eq (.var 4) (.int 1))
    (.cons (.set 6 (.bin .add (.var 6) (.tup (.cons (.call "_law_read" (.cons (.var 0) (.cons (.var 1) (.cons (.sub (.var 3) (.int 0)) .nil)))) .nil))))
    (.cons (.appL (.var 5) (.sub (.var 3) (.int 0)))
    (.cons (.set 6 (.bin .add (.var 6) (.call "_law_plain" (.cons (.var 0) (.cons (.var 1) (.cons (.var 5) (.cons (.bin .add (.int 1) (.call "_law_take" (.cons (.var 0) (.cons (.int 2) .nil)))) .nil)))))))
    .nil)))
    .nil)
    (.cons (.ite (.and (.cmp .gt (.var 4) (.int 1)) (.and (.cmp .ne (.var 4) (.int 3)) (.cmp .eq (.call "_law_take" (.cons (.var 0) (.cons (.int 2) .nil))) (.int 0))))
    (.cons (.set 6 (.bin .add (.slice (.var 6) .no (.some (.int 1))) (.tup (.cons (.call "_law_read" (.cons (.var 0) (.cons (.var 1) (.cons (.sub (.var 3) (.int 0)) .nil)))) .nil))))
    (.cons (.appL (.var 5) (.sub (.var 3) (.int 0)))
    .nil))
    .nil)
    (.cons (.ite (.cmp .eq (.var 4) (.int 4))
    (.cons (.par 9 10 (.call "_law_plain" (.cons (.var 0) (.cons (.var 1) (.cons (.var 5) (.cons (.int 3) .nil))))) (.call "_law_plain" (.cons (.var 0) (.cons (.var 1) (.cons (.var 5) (.cons (.call "_law_take" (.cons (.var 0) (.cons (.int 2) .nil))) .nil))))))
    (.cons (.set 7 (.bin .add (.bin .add (.slice (.var 9) .no (.some (.int 1))) (.tup (.cons (.tup (.cons (.str "try") (.cons (.slice (.var 9) (.some (.int 1)) (.some (.int 2))) (.cons (.var 10) .nil)))) .nil))) (.slice (.var 9) (.some (.int 2)) .no)))
    (.cons (.set 8 (.ifx (.cmp .gt (.call "_law_take" (.cons (.var 0) (.cons (.int 3) .nil))) (.int 0)) (.tup (.cons (.str "try") (.cons (.var 7) (.cons (.var 10) .nil)))) (.tup (.cons (.str "try") (.cons (.slice (.var 9) .no (.some (.int 1))) (.cons (.var 7) .nil))))))
    (.cons (.ret (.bin .add (.slice (.var 6) .no (.some (.int 2))) (.tup (.cons (.var 8) (.cons (.call "_law_read" (.cons (.var 0) (.cons (.var 1) (.cons (.sub (.var 3) (.int 1)) .nil)))) .nil)))))
    .nil))))
    .nil)
    (.cons (.ite (.or (.cmp .eq (.var 4) (.int 2)) (.cmp .eq (.var 4) (.int 3)))
    (.cons (.set 9 (.call "_law_plain" (.cons (.var 0) (.cons (.var 1) (.cons (.var 5) (.cons (.bin .add (.int 1) (.call "_law_take" (.cons (.var 0) (.cons (.int 2) .nil)))) .nil))))))
    (.cons (.set 10 (.call "_law_plain" (.cons (.var 0) (.cons (.var 1) (.cons (.var 5) (.cons (.call "_law_take" (.cons (.var 0) (.cons (.int 2) .nil))) .nil))))))
    (.cons (.ite (.cmp .eq (.var 4) (.int 3))
    (.cons (.set 11 (.call "_law_take" (.cons (.var 0) (.cons (.bin .add (.bi .len (.var 9)) (.int 1)) .nil))))
    (.cons (.par 6 9 (.slice (.var 6) .no (.some (.int 1))) (.bin .add (.bin .add (.slice (.var 9) .no (.some (.var 11))) (.tup (.cons (.call "_law_read" (.cons (.var 0) (.cons (.var 1) (.cons (.sub (.var 3) (.int 0)) .nil)))) .nil))) (.slice (.var 9) (.some (.var 11)) .no)))
    (.cons (.ite (.cmp .eq (.call "_law_take" (.cons (.var 0) (.cons (.int 2) .nil))) (.int 0))
    (.cons (.set 9 (.bin .add (.var 9) (.call "_law_plain" (.cons (.var 0) (.cons (.var 1) (.cons (.bin .add (.var 5) (.lst (.cons (.sub (.var 3) (.int 0)) .nil))) (.cons (.int 1) .nil)))))))
    .nil)
    .nil)
    (.cons (.set 10 (.bin .add (.var 10) (.tup (.cons (.call "_law_read" (.cons (.var 0) (.cons (.var 1) (.cons (.sub (.var 3) (.int 0)) .nil)))) .nil))))
    (.cons (.appL (.var 5) (.sub (.var 3) (.int 0)))
    .nil)))))
    .nil)
    (.cons (.set 6 (.bin .add (.var 6) (.tup (.cons (.tup (.cons (.str "try") (.cons (.var 9) (.cons (.var 10) .nil)))) .nil))))
    (.cons (.set 6 (.bin .add (.var 6) (.call "_law_plain" (.cons (.var 0) (.cons (.var 1) (.cons (.var 5) (.cons (.call "_law_take" (.cons (.var 0) (.cons (.int 2) .nil))) .nil)))))))
    .nil)))))
    .nil)
    (.cons (.ret (.bin .add (.var 6) (.tup (.cons (.call "_law_read" (.cons (.var 0) (.cons (.var 1) (.cons (.sub (.var 3) (.int 1)) .nil)))) .nil))))
    .nil)))))))), false⟩
section
variable {C : Cn} {t : Tbl}
/-- a mantissa: lowest terms, from 0 to below 1 -/
structure Mant (p : Int × Int) : Prop where
  lo : 0 ≤ p.1
  hi : p.1 < p.2
  one : Int.gcd p.1 p.2 = 1
  top : p.2 ≤ 1000000
theorem Mant.gd {p : Int × Int} (h : Mant p) : Gd p := by
  have h1 := h.lo
  have h2 := h.hi
  have h3 := h.top
  exact ⟨by omega, by omega, by omega⟩
theorem Mant.fr {a b : Int} (ha : 0 ≤ a) (hb : a < b) (hz : b ≤ 1000000) : Mant (fr a b) := by
  have b0 : b ≠ 0 := by omega
  have hg : (0 : Int) < (Int.gcd a b : Nat) := by have := gcd_pos (a := a) b0; omega
  have hn : ¬ b < 0 := by omega
  have d1 : ((Int.gcd a b : Nat) : Int) ∣ a := Int.gcd_dvd_left a b
  have d2 : ((Int.gcd a b : Nat) : Int) ∣ b := Int.gcd_dvd_right a b
  have e1 : (PV.fr a b).1 = a / (Int.gcd a b : Nat) := by simp only [PV.fr, frN, hn, if_false]
  have e2 : (PV.fr a b).2 = b / (Int.gcd a b : Nat) := by simp only [PV.fr, frB, hn, if_false]
  refine ⟨?_, ?_, ?_, ?_⟩
  · rw [e1]; exact Int.ediv_nonneg ha (by omega)
  · rw [e1, e2]
    refine Int.lt_of_mul_lt_mul_right (a := ((Int.gcd a b : Nat) : Int)) ?_ (by omega)
    rw [Int.ediv_mul_cancel d1, Int.ediv_mul_cancel d2]
    exact hb
  · rw [e1, e2]
    exact Int.gcd_ediv_gcd_ediv_gcd (by omega)
  · rw [e2]
    exact Int.le_trans (Int.ediv_le_self _ (by omega)) hz
theorem mantissa_ok (hk : t "_law_take" = some d_law_take) (hf : t "_law_frac" = some d_law_frac) (ht : t "_law_mantissa" = some d_law_mantissa) (n : Nat) {rest st : S} (dk : Deck rest st) :
    ∃ p st', callN C t (n + 2) "_law_mantissa" [.obj 0] st = .ok (pP p) st' ∧ Mant p ∧ Deck rest st' := by
  rw [call_run ht rfl]
  have p6 : binD .pow (.int 10) (.int 6) = some (.int 1000000) := b_pow ⟨by decide, by decide, by decide⟩
  obtain ⟨k, st1, h1, a1, b1, dk1⟩ := take_ok (C := C) hk n (l := 12) (by decide) (by decide) dk
  have main : ∀ l : Int, 0 < l → l ≤ 1000000 → L2.atI [D.int 1, .int 2, .int 3, .int 4, .int 5, .int 6, .int 8, .int 12, .int 30, .int 97, .int 1000, .int 1000000] k = some (.int l) →
      ∃ p st', kRun (evSs C (callN C t (n + 1)) d_law_mantissa.body ([D.obj 0].map .val ++ List.replicate (d_law_mantissa.n - d_law_mantissa.np) .no) st) = .ok (pP p) st' ∧ Mant p ∧ Deck rest st' := by
    intro l hl hl2 hat
    obtain ⟨u, st3, h3, a3, b3, dk3⟩ := take_ok (C := C) hk n (l := l) hl (pow_up (j := 64) (by omega) (by decide)) dk1
    have f := law_frac_ok (C := C) hf n (a := u) (b := l) (by omega) (pow_up (j := 64) (by omega) (by decide)) st3
    refine ⟨fr u l, st3, ?_, Mant.fr a3 b3 hl2, dk3⟩
    rw [frD_eq] at f
    clear dk dk1 dk3 hl hl2 a1 b1 a3 b3
    simp only [d_law_mantissa]
    walk_at "pvh"
  have hc : k = 0 ∨ k = 1 ∨ k = 2 ∨ k = 3 ∨ k = 4 ∨ k = 5 ∨ k = 6 ∨ k = 7 ∨ k = 8 ∨ k = 9 ∨ k = 10 ∨ k = 11 := by omega
  rcases hc with rfl | rfl | rfl | rfl | rfl | rfl | rfl | rfl | rfl | rfl | rfl | rfl
  · exact main 1 (by decide) (by decide) rfl
  · exact main 2 (by decide) (by decide) rfl
  · exact main 3 (by decide) (by decide) rfl
  · exact main 4 (by decide) (by decide) rfl
  · exact main 5 (by decide) (by decide) rfl
  · exact main 6 (by decide) (by decide) rfl
  · exact main 8 (by decide) (by decide) rfl
  · exact main 12 (by decide) (by decide) rfl
  · exact main 30 (by decide) (by decide) rfl
  · exact main 97 (by decide) (by decide) rfl
  · exact main 1000 (by decide) (by decide) rfl
  · exact main 1000000 (by decide) (by decide) rfl
theorem loop_nil {f : D → DE → S → RS} {env : DE} {st : S} : loopS f [] env st = .ok (.nx env) st := rfl
/-! ### letters -/
def chS (c : Nat) : Str := ⟨#[c]⟩
theorem low_at {k : Int} (h0 : 0 ≤ k) (h1 : k < 26) (s : S) : subD s (.str (Str.ofString "abcdefghijklmnopqrstuvwxyz")) (.int k) = some (.str (chS (97 + k.toNat))) := by
  obtain ⟨j, rfl⟩ := Int.eq_ofNat_of_zero_le h0
  have hj : j < 26 := by omega
  have key : ∀ i : Fin 26, (L2.atI (Str.ofString "abcdefghijklmnopqrstuvwxyz").cps.toList (i.val : Int)) = some (97 + i.val) := by decide +kernel
  have hl : (Str.ofString "abcdefghijklmnopqrstuvwxyz").length ≤ sizeLine := by decide +kernel
  have e := key ⟨j, hj⟩
  simp only [subD]
  rw [if_pos hl, e]
  rfl
theorem upp_at {k : Int} (h0 : 0 ≤ k) (h1 : k < 26) (s : S) : subD s (.str (Str.ofString "ABCDEFGHIJKLMNOPQRSTUVWXYZ")) (.int k) = some (.str (chS (65 + k.toNat))) := by
  obtain ⟨j, rfl⟩ := Int.eq_ofNat_of_zero_le h0
  have hj : j < 26 := by omega
  have key : ∀ i : Fin 26, (L2.atI (Str.ofString "ABCDEFGHIJKLMNOPQRSTUVWXYZ").cps.toList (i.val : Int)) = some (65 + i.val) := by decide +kernel
  have hl : (Str.ofString "ABCDEFGHIJKLMNOPQRSTUVWXYZ").length ≤ sizeLine := by decide +kernel
  have e := key ⟨j, hj⟩
  simp only [subD]
  rw [if_pos hl, e]
  rfl
/-- a drawn name: a first letter, up to two more -/
def NmOk (c : Nat) (z : Str) : Prop := ∃ l : List Nat, z = ⟨((97 + c) :: l).toArray⟩ ∧ l.length ≤ 2 ∧ ∀ a ∈ l, 97 ≤ a ∧ a ≤ 122
theorem NmOk.len {c : Nat} {z : Str} (h : NmOk c z) : z.length ≤ 3 := by
  obtain ⟨l, rfl, h1, _⟩ := h
  show ((97 + c) :: l).toArray.size ≤ 3
  rw [List.size_toArray, List.length_cons]
  omega
theorem str_app (l : List Nat) (c : Nat) : (⟨l.toArray⟩ : Str) ++ chS c = ⟨(l ++ [c]).toArray⟩ := by
  show (⟨l.toArray ++ #[c]⟩ : Str) = _
  congr 1
  apply Array.toList_inj.mp
  simp
theorem names_in (hk : t "_law_take" = some d_law_take) (n : Nat) {rest : S} {v2 v3 v4 : Sl} : ∀ (ds : List D) (l : List Nat) (s6 : Sl) (st : S), Deck rest st → l.length + ds.length ≤ 100 → (∀ a ∈ l.drop 1, 97 ≤ a ∧ a ≤ 122) → l ≠ [] →
    ∃ l' s6' st', loopS (fun d env s => evSs C (callN C t (n + 1)) d_law_names_b1 (env.set 6 (.val d)) s) ds [.val (.obj 0), .val (.str (Str.ofString "abcdefghijklmnopqrstuvwxyz")), v2, v3, v4, .val (.str ⟨l.toArray⟩), s6] st
      = .ok (.nx [.val (.obj 0), .val (.str (Str.ofString "abcdefghijklmnopqrstuvwxyz")), v2, v3, v4, .val (.str ⟨(l ++ l').toArray⟩), s6']) st' ∧ l'.length = ds.length ∧ (∀ a ∈ (l ++ l').drop 1, 97 ≤ a ∧ a ≤ 122) ∧ Deck rest st'
  | [], l, s6, st, dk, hl, ha, hne => ⟨[], s6, st, by rw [List.append_nil]; rfl, rfl, by rw [List.append_nil]; exact ha, dk⟩
  | d :: ds, l, s6, st, dk, hl, ha, hne => by
    rw [List.length_cons] at hl
    obtain ⟨k, st1, h1, a1, b1, dk1⟩ := take_ok (C := C) hk n (l := 26) (by decide) (by decide) dk
    have e1 := low_at a1 b1 st1
    have hz : (⟨l.toArray⟩ : Str).length + (chS (97 + k.toNat)).length ≤ sizeLine := by
      show l.toArray.size + 1 ≤ sizeLine
      rw [List.size_toArray, sizeLine_eq]
      omega
    have e2 : binD .add (.str ⟨l.toArray⟩) (.str (chS (97 + k.toNat))) = some (.str ⟨(l ++ [97 + k.toNat]).toArray⟩) := by
      rw [← str_app]
      exact if_pos hz
    have hb : evSs C (callN C t (n + 1)) d_law_names_b1 ([.val (.obj 0), .val (.str (Str.ofString "abcdefghijklmnopqrstuvwxyz")), v2, v3, v4, .val (.str ⟨l.toArray⟩), .val d] : DE) st
        = .ok (.nx [.val (.obj 0), .val (.str (Str.ofString "abcdefghijklmnopqrstuvwxyz")), v2, v3, v4, .val (.str ⟨(l ++ [97 + k.toNat]).toArray⟩), .val d]) st1 := by
      clear dk dk1 hl ha hne hz
      simp only [d_law_names_b1]
      walk_at "pvh"
    obtain ⟨l', s6', st2, h2, hl2, ha2, dk2⟩ := names_in hk n ds (l ++ [97 + k.toNat]) (.val d) st1 dk1 (by rw [List.length_append, List.length_singleton]; omega) (by
      intro a hm
      rw [List.drop_append_of_le_length (by have := List.length_pos_iff.mpr hne; omega)] at hm
      rcases List.mem_append.mp hm with h | h
      · exact ha a h
      · rw [List.mem_singleton.mp h]; omega) (by simp)
    rw [List.append_assoc] at h2 ha2
    exact ⟨_, s6', st2, (loop_go hb).trans h2, by rw [List.length_append, List.length_singleton, List.length_cons, hl2]; omega, ha2, dk2⟩
theorem names_turn (hk : t "_law_take" = some d_law_take) (n : Nat) {rest st : S} {start k : Int} {xs : List D} {s5 s6 : Sl} (dk : Deck rest st) (h0 : 0 ≤ start) (hk0 : 0 ≤ k) (hk1 : k < 1000) (hx : xs.length < 1000) :
    ∃ z s6' st', evSs C (callN C t (n + 1)) d_law_names_b2 ([.val (.obj 0), .val (.str (Str.ofString "abcdefghijklmnopqrstuvwxyz")), .val (.int start), .own xs, .val (.int k), s5, s6] : DE) st
      = .ok (.nx [.val (.obj 0), .val (.str (Str.ofString "abcdefghijklmnopqrstuvwxyz")), .val (.int start), .own (xs ++ [.str z]), .val (.int k), .val (.str z), s6']) st' ∧ NmOk ((start + 7 * k) % 26).toNat z ∧ Deck rest st' := by
  have m1 : binD .mul (.int 7) (.int k) = some (.int (7 * k)) := b_mulL (by decide)
  have m2 : binD .mod (.int (start + 7 * k)) (.int 26) = some (.int ((start + 7 * k) % 26)) := b_mod (by decide)
  have c0 : 0 ≤ (start + 7 * k) % 26 := Int.emod_nonneg _ (by decide)
  have c1 : (start + 7 * k) % 26 < 26 := Int.emod_lt_of_pos _ (by decide)
  have e1 := low_at c0 c1 st
  obtain ⟨u, st1, h1, a1, b1, dk1⟩ := take_ok (C := C) hk n (l := 3) (by decide) (by decide) dk
  obtain ⟨l', s6', st2, h2, hl2, ha2, dk2⟩ := names_in (C := C) hk n (v2 := .val (.int start)) (v3 := .own xs) (v4 := .val (.int k)) ((List.range u.toNat).map fun (n : Nat) => D.int (n : Int)) [97 + ((start + 7 * k) % 26).toNat] s6 st1 dk1 (by simp; omega) (fun a h => nomatch h) (by simp)
  refine ⟨_, s6', st2, ?_, ⟨l', rfl, ?_, fun a h => ha2 a h⟩, dk2⟩
  · have hf : ∀ (env : DE), kForR env (fun d env s => evSs C (callN C t (n + 1)) d_law_names_b1 (env.set 6 (.val d)) s) (.ok (.int u) st1) = loopS (fun d env s => evSs C (callN C t (n + 1)) d_law_names_b1 (env.set 6 (.val d)) s) ((List.range u.toNat).map fun (n : Nat) => D.int (n : Int)) env st1 := fun env => kForR_ok ⟨by omega, by omega⟩
    have hx2 : xs.length < 16777216 := by omega
    have h2' : loopS (fun d env s => evSs C (callN C t (n + 1)) d_law_names_b1 (env.set 6 (.val d)) s) ((List.range u.toNat).map fun (n : Nat) => D.int (n : Int)) [.val (.obj 0), .val (.str (Str.ofString "abcdefghijklmnopqrstuvwxyz")), .val (.int start), .own xs, .val (.int k), .val (.str (chS (97 + ((start + 7 * k) % 26).toNat))), s6] st1 = _ := h2
    clear dk dk1 dk2 ha2 hl2 h0 hk0 hk1 hx c0 c1 a1 b1 h2
    simp only [d_law_names_b2]
    walk_at "pvh"
  · rw [hl2, List.length_map, List.length_range]; omega
structure Names (xs : List Str) : Prop where
  ex : ∃ (c : Int) (z0 z1 z2 z3 z4 : Str), 0 ≤ c ∧ c < 26 ∧ xs = [z0, z1, z2, z3, z4] ∧ NmOk (c % 26).toNat z0 ∧ NmOk ((c + 7) % 26).toNat z1 ∧ NmOk ((c + 14) % 26).toNat z2 ∧ NmOk ((c + 21) % 26).toNat z3 ∧ NmOk ((c + 28) % 26).toNat z4
theorem names_ok (hk : t "_law_take" = some d_law_take) (ht : t "_law_names" = some d_law_names) (n : Nat) {rest st : S} (dk : Deck rest st) :
    ∃ xs st', callN C t (n + 2) "_law_names" [.obj 0] st = .ok (.lst (xs.map .str)) st' ∧ Names xs ∧ Deck rest st' := by
  rw [call_run ht rfl]
  obtain ⟨c, st0, h0, a0, b0, dk0⟩ := take_ok (C := C) hk n (l := 26) (by decide) (by decide) dk
  obtain ⟨z0, s60, st1, h1, n1, dk1⟩ := names_turn (C := C) hk n (k := 0) (xs := []) (s5 := .no) (s6 := .no) dk0 a0 (by decide) (by decide) (by simp)
  obtain ⟨z1, s61, st2, h2, n2, dk2⟩ := names_turn (C := C) hk n (k := 1) (xs := [.str z0]) (s5 := .val (.str z0)) (s6 := s60) dk1 a0 (by decide) (by decide) (by simp)
  obtain ⟨z2, s62, st3, h3, n3, dk3⟩ := names_turn (C := C) hk n (k := 2) (xs := [.str z0, .str z1]) (s5 := .val (.str z1)) (s6 := s61) dk2 a0 (by decide) (by decide) (by simp)
  obtain ⟨z3, s63, st4, h4, n4, dk4⟩ := names_turn (C := C) hk n (k := 3) (xs := [.str z0, .str z1, .str z2]) (s5 := .val (.str z2)) (s6 := s62) dk3 a0 (by decide) (by decide) (by simp)
  obtain ⟨z4, s64, st5, h5, n5, dk5⟩ := names_turn (C := C) hk n (k := 4) (xs := [.str z0, .str z1, .str z2, .str z3]) (s5 := .val (.str z3)) (s6 := s63) dk4 a0 (by decide) (by decide) (by simp)
  refine ⟨[z0, z1, z2, z3, z4], st5, ?_, ⟨c, z0, z1, z2, z3, z4, a0, b0, rfl, by simpa using n1, by simpa using n2, by simpa using n3, by simpa using n4, by simpa using n5⟩, dk5⟩
  have hl := (loop_go (f := fun d env s => evSs C (callN C t (n + 1)) d_law_names_b2 (env.set 4 (.val d)) s) (x := .int 0) (xs := [.int 1, .int 2, .int 3, .int 4]) (env := [.val (.obj 0), .val (.str (Str.ofString "abcdefghijklmnopqrstuvwxyz")), .val (.int c), .own [], .no, .no, .no]) h1).trans
    ((loop_go h2).trans ((loop_go h3).trans ((loop_go h4).trans ((loop_go h5).trans loop_nil))))
  have hf : ∀ (env : DE), kForR env (fun d env s => evSs C (callN C t (n + 1)) d_law_names_b2 (env.set 4 (.val d)) s) (.ok (.int 5) st0) = loopS (fun d env s => evSs C (callN C t (n + 1)) d_law_names_b2 (env.set 4 (.val d)) s) [.int 0, .int 1, .int 2, .int 3, .int 4] env st0 := fun env => kForR_ok ⟨by decide, by decide⟩
  clear dk dk0 dk1 dk2 dk3 dk4 dk5 n1 n2 n3 n4 n5 h1 h2 h3 h4 h5 a0 b0
  simp only [d_law_names]
  walk_at "pvh"
theorem sIx_pos {n d : Nat} {c : Int} (h : 0 ≤ c) : HT.sIx n d (some c) = min c.toNat n := by
  show (if c < 0 then _ else _) = _
  rw [if_neg (by omega)]
theorem cut_to {α : Type} {xs : List α} {c : Int} (h : 0 ≤ c) : PV.cutD xs none (some c) = xs.take c.toNat := by
  unfold PV.cutD
  rw [sIx_pos h, show HT.sIx xs.length 0 none = 0 from rfl, List.drop_zero, Nat.sub_zero]
  rcases Nat.le_total c.toNat xs.length with q | q
  · rw [Nat.min_eq_left q]
  · rw [Nat.min_eq_right q, List.take_of_length_le (Nat.le_refl _), List.take_of_length_le q]
theorem cut_from {α : Type} {xs : List α} {c : Int} (h : 0 ≤ c) : PV.cutD xs (some c) none = xs.drop c.toNat := by
  unfold PV.cutD
  rw [sIx_pos h, show HT.sIx xs.length xs.length none = xs.length from rfl]
  rcases Nat.le_total c.toNat xs.length with q | q
  · rw [Nat.min_eq_left q]
    exact List.take_of_length_le (by rw [List.length_drop]; omega)
  · rw [Nat.min_eq_right q, List.drop_of_length_le (Nat.le_refl _), List.drop_of_length_le q, List.take_nil]
/-- a drawn scale -/
structure Sca where
  n : Str
  t : Int
  f : Int × Int
def scD (s : Sca) : D := .tup [.str s.n, .int s.t, pP s.f]
structure ScOk (c : Nat) (s : Sca) : Prop where
  n : ∃ l : List Nat, s.n = ⟨((65 + c) :: l).toArray⟩ ∧ (l = [] ∨ l = [73] ∨ l = [70, 88])
  t0 : s.t ≠ 0
  t1 : -3 ≤ s.t
  t2 : s.t ≤ 3
  f : Mant s.f
theorem ScOk.len {c : Nat} {s : Sca} (h : ScOk c s) : s.n.length ≤ 3 := by
  obtain ⟨l, e, h1⟩ := h.n
  rw [e]
  show ((65 + c) :: l).toArray.size ≤ 3
  rcases h1 with rfl | rfl | rfl <;> simp
theorem mant0 : Mant (0, 1) := ⟨by decide, by decide, by decide, by decide⟩
theorem pz : D.tup [.int 0, .int 1] = pP (0, 1) := rfl
theorem str_app2 (l m : List Nat) : (⟨l.toArray⟩ : Str) ++ (⟨m.toArray⟩ : Str) = ⟨(l ++ m).toArray⟩ := by
  show (⟨l.toArray ++ m.toArray⟩ : Str) = _
  congr 1
  apply Array.toList_inj.mp
  simp
theorem scales_turn (hk : t "_law_take" = some d_law_take) (hf : t "_law_frac" = some d_law_frac) (hm : t "_law_mantissa" = some d_law_mantissa) (n : Nat) {rest st : S} {first k : Int} {xs : List D} {s5 s6 s7 s8 : Sl} (dk : Deck rest st) (h0 : 0 ≤ first) (hk0 : 0 ≤ k) (hk1 : k < 1000) (hx : xs.length < 1000) :
    ∃ s s6' s7' s8' st', evSs C (callN C t (n + 2)) d_law_scales_b1 ([.val (.obj 0), .val (.str (Str.ofString "ABCDEFGHIJKLMNOPQRSTUVWXYZ")), .val (.int first), .own xs, .val (.int k), s5, s6, s7, s8] : DE) st
      = .ok (.nx [.val (.obj 0), .val (.str (Str.ofString "ABCDEFGHIJKLMNOPQRSTUVWXYZ")), .val (.int first), .own (xs ++ [scD s]), .val (.int k), s5, s6', s7', s8']) st' ∧ ScOk ((first + 5 * k) % 26).toNat s ∧ Deck rest st' := by
  have m1 : binD .mul (.int 5) (.int k) = some (.int (5 * k)) := b_mulL (by decide)
  have m2 : binD .mod (.int (first + 5 * k)) (.int 26) = some (.int ((first + 5 * k) % 26)) := b_mod (by decide)
  have c0 : 0 ≤ (first + 5 * k) % 26 := Int.emod_nonneg _ (by decide)
  have c1 : (first + 5 * k) % 26 < 26 := Int.emod_lt_of_pos _ (by decide)
  have e1 := upp_at c0 c1 st
  obtain ⟨u, st1, h1, a1, b1, dk1⟩ := take_ok (C := C) hk (n + 1) (l := 3) (by decide) (by decide) dk
  obtain ⟨v, st2, h2, a2, b2, dk2⟩ := take_ok (C := C) hk (n + 1) (l := 8) (by decide) (by decide) dk1
  obtain ⟨w, st3, h3, a3, b3, dk3⟩ := take_ok (C := C) hk (n + 1) (l := 3) (by decide) (by decide) dk2
  have hx2 : xs.length < 16777216 := by omega
  have suf : ∃ l : List Nat, L2.atI [D.str (Str.ofString ""), .str (Str.ofString "I"), .str (Str.ofString "FX")] u = some (.str ⟨l.toArray⟩) ∧ (l = [] ∨ l = [73] ∨ l = [70, 88]) := by
    have hc : u = 0 ∨ u = 1 ∨ u = 2 := by omega
    rcases hc with rfl | rfl | rfl
    · exact ⟨[], rfl, .inl rfl⟩
    · exact ⟨[73], rfl, .inr (.inl rfl)⟩
    · exact ⟨[70, 88], rfl, .inr (.inr rfl)⟩
  obtain ⟨l, hl, hl2⟩ := suf
  have tu : ∃ z : Int, L2.atI [D.int 1, .int 2, .int (-1), .int 3, .int 1, .int (-2), .int 1, .int (-3)] v = some (.int z) ∧ z ≠ 0 ∧ -3 ≤ z ∧ z ≤ 3 := by
    have hc : v = 0 ∨ v = 1 ∨ v = 2 ∨ v = 3 ∨ v = 4 ∨ v = 5 ∨ v = 6 ∨ v = 7 := by omega
    rcases hc with rfl | rfl | rfl | rfl | rfl | rfl | rfl | rfl <;> exact ⟨_, rfl, by decide, by decide, by decide⟩
  obtain ⟨z, hz, z0, z1, z2⟩ := tu
  have e2 : binD .add (.str (chS (65 + ((first + 5 * k) % 26).toNat))) (.str ⟨l.toArray⟩) = some (.str ⟨((65 + ((first + 5 * k) % 26).toNat) :: l).toArray⟩) := by
    have e : chS (65 + ((first + 5 * k) % 26).toNat) = ⟨[65 + ((first + 5 * k) % 26).toNat].toArray⟩ := rfl
    have hlen : (chS (65 + ((first + 5 * k) % 26).toNat)).length + (⟨l.toArray⟩ : Str).length ≤ sizeLine := by
      show 1 + l.toArray.size ≤ sizeLine
      rw [sizeLine_eq]
      rcases hl2 with rfl | rfl | rfl <;> simp
    have : binD .add (.str (chS (65 + ((first + 5 * k) % 26).toNat))) (.str ⟨l.toArray⟩) = some (.str (chS (65 + ((first + 5 * k) % 26).toNat) ++ (⟨l.toArray⟩ : Str))) := if_pos hlen
    rw [this, e, str_app2]
    rfl
  have zz := pz
  by_cases hw : w = 0
  · subst hw
    obtain ⟨p, st4, h4, mp, dk4⟩ := mantissa_ok (C := C) hk hf hm n dk3
    refine ⟨⟨⟨((65 + ((first + 5 * k) % 26).toNat) :: l).toArray⟩, z, p⟩, .val (.str ⟨((65 + ((first + 5 * k) % 26).toNat) :: l).toArray⟩), .val (.int z), .val (pP p), st4, ?_, ⟨⟨l, rfl, hl2⟩, z0, z1, z2, mp⟩, dk4⟩
    clear dk dk1 dk2 dk3 dk4 mp hl2 z0 z1 z2 a1 b1 a2 b2 a3 b3 c0 c1 h0 hk0 hk1 hx
    simp only [d_law_scales_b1, scD]
    walk_at "pvh"
  · refine ⟨⟨⟨((65 + ((first + 5 * k) % 26).toNat) :: l).toArray⟩, z, (0, 1)⟩, .val (.str ⟨((65 + ((first + 5 * k) % 26).toNat) :: l).toArray⟩), .val (.int z), .val (pP (0, 1)), st3, ?_, ⟨⟨l, rfl, hl2⟩, z0, z1, z2, mant0⟩, dk3⟩
    have hw2 : eqD (.int w) (.int 0) = some false := congrArg some (decide_eq_false hw)
    clear dk dk1 dk2 dk3 hl2 z0 z1 z2 a1 b1 a2 b2 a3 b3 c0 c1 h0 hk0 hk1 hx hw
    simp only [d_law_scales_b1, scD]
    walk_at "pvh"
def ScAll (first : Int) : List Int → List Sca → Prop
  | [], [] => True
  | k :: ks, s :: ss => ScOk ((first + 5 * k) % 26).toNat s ∧ ScAll first ks ss
  | _, _ => False
theorem ScAll.len {first : Int} : ∀ {ks : List Int} {ss : List Sca}, ScAll first ks ss → ss.length = ks.length
  | [], [], _ => rfl
  | k :: ks, s :: ss, h => by rw [List.length_cons, List.length_cons, ScAll.len h.2]
  | [], _ :: _, h => h.elim
  | _ :: _, [], h => h.elim
theorem ScAll.ok {first : Int} : ∀ {ks : List Int} {ss : List Sca}, ScAll first ks ss → ∀ s ∈ ss, ∃ c, ScOk c s
  | [], [], _, s, hs => nomatch hs
  | k :: ks, s :: ss, h, r, hr => by
    rcases List.mem_cons.mp hr with e | e
    · rw [e]; exact ⟨_, h.1⟩
    · exact ScAll.ok h.2 r e
  | [], _ :: _, h, _, _ => h.elim
  | _ :: _, [], h, _, _ => h.elim
theorem scales_loop (hk : t "_law_take" = some d_law_take) (hf : t "_law_frac" = some d_law_frac) (hm : t "_law_mantissa" = some d_law_mantissa) (n : Nat) {rest : S} {first : Int} (h0 : 0 ≤ first) {s5 : Sl} : ∀ (ks : List Int) (xs : List D) (s4 s6 s7 s8 : Sl) (st : S), Deck rest st → (∀ k ∈ ks, 0 ≤ k ∧ k < 1000) → xs.length + ks.length < 1000 →
    ∃ ss s4' s6' s7' s8' st', loopS (fun d env s => evSs C (callN C t (n + 2)) d_law_scales_b1 (env.set 4 (.val d)) s) (ks.map D.int) [.val (.obj 0), .val (.str (Str.ofString "ABCDEFGHIJKLMNOPQRSTUVWXYZ")), .val (.int first), .own xs, s4, s5, s6, s7, s8] st
      = .ok (.nx [.val (.obj 0), .val (.str (Str.ofString "ABCDEFGHIJKLMNOPQRSTUVWXYZ")), .val (.int first), .own (xs ++ ss.map scD), s4', s5, s6', s7', s8']) st' ∧ ScAll first ks ss ∧ Deck rest st'
  | [], xs, s4, s6, s7, s8, st, dk, _, _ => ⟨[], s4, s6, s7, s8, st, by simp only [List.map_nil, List.append_nil]; rfl, trivial, dk⟩
  | k :: ks, xs, s4, s6, s7, s8, st, dk, hks, hl => by
    rw [List.length_cons] at hl
    obtain ⟨q1, q2⟩ := hks k List.mem_cons_self
    obtain ⟨s, s6', s7', s8', st1, h1, o1, dk1⟩ := scales_turn (C := C) hk hf hm n (s5 := s5) (s6 := s6) (s7 := s7) (s8 := s8) (xs := xs) dk h0 q1 q2 (by omega)
    obtain ⟨ss, s4'', s6'', s7'', s8'', st2, h2, o2, dk2⟩ := scales_loop hk hf hm n h0 ks (xs ++ [scD s]) (.val (.int k)) s6' s7' s8' st1 dk1 (fun j hj => hks j (List.mem_cons_of_mem _ hj)) (by rw [List.length_append, List.length_singleton]; omega)
    rw [List.append_assoc] at h2
    exact ⟨s :: ss, s4'', s6'', s7'', s8'', st2, (loop_go h1).trans h2, ⟨o1, o2⟩, dk2⟩
/-- the scales of a rule: body and slide -/
structure Rl where
  b : List Sca
  s : List Sca
def rlD (r : Rl) : D := .tup [.tup (r.b.map scD), .tup (r.s.map scD)]
structure RlOk (r : Rl) : Prop where
  ex : ∃ (first : Int) (m : Nat), 0 ≤ first ∧ first < 26 ∧ 2 ≤ m ∧ m ≤ 4 ∧ ScAll first ((List.range m).map fun (n : Nat) => (n : Int)) (r.b ++ r.s)
  b : r.b ≠ []
  s : r.s ≠ []
theorem RlOk.all {r : Rl} (h : RlOk r) : ∀ s ∈ r.b ++ r.s, ∃ c, ScOk c s := by
  obtain ⟨f, m, _, _, _, _, q⟩ := h.ex
  exact q.ok
theorem RlOk.len {r : Rl} (h : RlOk r) : r.b.length + r.s.length ≤ 4 := by
  obtain ⟨f, m, _, _, _, h4, q⟩ := h.ex
  have := q.len
  rw [List.length_append, List.length_map, List.length_range] at this
  omega
theorem scales_ok (hk : t "_law_take" = some d_law_take) (hf : t "_law_frac" = some d_law_frac) (hm : t "_law_mantissa" = some d_law_mantissa) (ht : t "_law_scales" = some d_law_scales) (n : Nat) {rest st : S} (dk : Deck rest st) :
    ∃ r st', callN C t (n + 3) "_law_scales" [.obj 0] st = .ok (rlD r) st' ∧ RlOk r ∧ Deck rest st' := by
  rw [call_run ht rfl]
  obtain ⟨c, st0, h0, a0, b0, dk0⟩ := take_ok (C := C) hk (n + 1) (l := 26) (by decide) (by decide) dk
  obtain ⟨u, st1, h1, a1, b1, dk1⟩ := take_ok (C := C) hk (n + 1) (l := 3) (by decide) (by decide) dk0
  obtain ⟨ss, s4, s6, s7, s8, st2, h2, o2, dk2⟩ := scales_loop (C := C) hk hf hm n (first := c) a0 (s5 := .no) ((List.range (2 + u).toNat).map fun (n : Nat) => (n : Int)) [] .no .no .no .no st1 dk1 (by
    intro k hk
    obtain ⟨j, hj, rfl⟩ := List.mem_map.mp hk
    have := List.mem_range.mp hj
    omega) (by rw [List.length_nil, List.length_map, List.length_range]; omega)
  have hlen : ss.length = (2 + u).toNat := by rw [o2.len, List.length_map, List.length_range]
  obtain ⟨v, st3, h3, a3, b3, dk3⟩ := take_ok (C := C) hk (n + 1) (l := (ss.length : Int) - 1) (by omega) (pow_up (j := 64) (by omega) (by decide)) dk2
  have e1 : PV.cutD (ss.map scD) none (some (1 + v)) = (ss.take (1 + v).toNat).map scD := by rw [cut_map, cut_to (by omega)]
  have e2 : PV.cutD (ss.map scD) (some (1 + v)) none = (ss.drop (1 + v).toNat).map scD := by rw [cut_map, cut_from (by omega)]
  refine ⟨⟨ss.take (1 + v).toNat, ss.drop (1 + v).toNat⟩, st3, ?_, ⟨⟨c, (2 + u).toNat, a0, b0, by omega, by omega, by rw [List.take_append_drop]; exact o2⟩, ?_, ?_⟩, dk3⟩
  · have hr : ∀ (env : DE), kForR env (fun d env s => evSs C (callN C t (n + 2)) d_law_scales_b1 (env.set 4 (.val d)) s) (.ok (.int (2 + u)) st1) = loopS (fun d env s => evSs C (callN C t (n + 2)) d_law_scales_b1 (env.set 4 (.val d)) s) (((List.range (2 + u).toNat).map fun (n : Nat) => (n : Int)).map D.int) env st1 := fun env => by
      rw [kForR_ok ⟨by omega, by omega⟩, List.map_map]
      rfl
    have l1 : biD st2 .len (.lst (ss.map scD)) = some (.int (ss.length : Int)) := by
      rw [k_lenL, List.length_map]
    have l2 : sliceD st3 (.lst (ss.map scD)) none (some (1 + v)) = some (.lst ((ss.take (1 + v).toNat).map scD)) := congrArg (fun z => some (D.lst z)) e1
    have l3 : sliceD st3 (.lst (ss.map scD)) (some (1 + v)) none = some (.lst ((ss.drop (1 + v).toNat).map scD)) := congrArg (fun z => some (D.lst z)) e2
    have l4 : biD st3 .tuple (.lst ((ss.take (1 + v).toNat).map scD)) = some (.tup ((ss.take (1 + v).toNat).map scD)) := rfl
    have l5 : biD st3 .tuple (.lst ((ss.drop (1 + v).toNat).map scD)) = some (.tup ((ss.drop (1 + v).toNat).map scD)) := rfl
    rw [List.nil_append] at h2
    clear dk dk0 dk1 dk2 dk3 o2 hlen a0 b0 a1 b1 a3 b3 e1 e2
    simp only [d_law_scales, rlD]
    walk_at "pvh"
  · intro z
    have := congrArg List.length z
    rw [List.length_take, List.length_nil] at this
    omega
  · intro z
    have := congrArg List.length z
    rw [List.length_drop, List.length_nil] at this
    omega
end
end PV

set_option Elab.async false
set_option linter.all false
set_option maxRecDepth 100000
set_option maxHeartbeats 1000000
set_option exponentiation.threshold 30000
set_option pp.maxSteps 600
set_option pp.deepTerms false
set_option pp.deepTerms.threshold 6
namespace PV
open PySem PySem.Spec PyProof.Rows L2
local macro_rules | `(tactic| walk_at "pv") => `(tactic| simp only [e_var, e_int, e_str, e_bl, e_non, e_glob, e_tup, e_lst, e_lstM, e_dic0, e_bin, e_neg, e_not, e_and, e_or, e_cmp, e_chain, e_isN, e_notN, e_ifx, e_sub, e_slice, e_call, e_bi, e_isi, e_comp, es_nil, es_cons, o_no, o_some, t_val, t_and, t_or, t_not, t_cmp, t_chain, t_isN, t_notN, kCons_ok, kCons_exc, kCons1_ok, kCons1_exc, kTup_ok, kTup_exc, kLst_ok, kLst_exc, kLstM_ok, kCall_ok, kCall_exc, kBin_ok, kBin_exc, kBin1_ok, kBin1_exc, kNeg_ok, kNot_ok, kNot_exc, kAnd_ok, kAnd_exc, kOr_ok, kOr_exc, kCmp_ok, kCmp_exc, kCmp1_ok, kCmp1_exc, kCh_ok, kCh1_ok, kCh2_some, kIf_ok, kIf_exc, kSub_ok, kSub_exc, kSub1_ok, kSub1_exc, kSl_ok, kSl1_ok, kSl2_ok, kBi_ok, kBi_exc, kIsi_ok, kTru_bl, kTru_exc, kTAnd_ok, kTAnd_exc, kTOr_ok, kTOr_exc, kTNot_ok, kTNot_exc, kTB_ok, kTB_exc, kInt_ok, kIsN_non, kNotN_non, ofO_some, ss_nil, ss_cons, s_expr, s_set, s_par, s_asg, s_putL, s_ownNew, s_ownApp, s_freeze, s_ret, s_retN, s_ite, s_whl, s_forN, s_forR, s_brk, s_cont, s_pass, s_raise, s_try, sq_nx, sq_rt, sq_bk, sq_ct, sq_exc, kExpr_ok, kExpr_exc, kSet_ok, kSet_exc, kPar_ok, kPar_exc, kPar1_ok, kPar1_exc, kAsg_ok, kAsg_exc, kPut_ok, kPut1_ok, kPut2_ok, kOwn_ok, kApp_ok, kRet_ok, kRet_exc, kSIf_ok, kSIf_exc, kFor_tup, kFor_lst, kRun_nx, kRun_rt, kRun_exc, kTry_ok, kTry_exc, nox_ok, eq_ii, eq_ss, si0, si1, si2, si3, si4, si5, si6, si7, si8, si9, si10, si11, si12, si13, si14, si15, b_add, b_sub, c_lt, c_le, c_gt, c_ge, eq_ii, eq_ss, c_eq, c_ne, k_abs, k_int, k_intB, k_lenT, k_lenL, k_lenS, x_tup, x_lst, gi0, si0, gi1, si1, gi2, si2, gi3, si3, gi4, si4, gi5, si5, gi6, si6, gi7, si7, gi8, si8, gi9, si9, gi10, si10, gi11, si11, gi12, si12, gi13, si13, gi14, si14, gi15, si15, ri0, ri1, ri2, ri3, ri4, ri5, ri6, ri7, ri8, ri9, ri10, ri11, ai0, ai1, ai2, ai3, ai4, ai5, ai6, ai7, ai8, ai9, List.map_cons, List.map_nil, List.cons_append, List.nil_append, List.append_nil, Option.map_some, R.bind_ok, Bool.not_true, Bool.not_false, if_true, if_false, Bool.false_eq_true, decide_true, decide_false, Nat.reduceSub, bindT, bindTs, List.length_cons, List.length_nil, sizeLine_eq, Nat.reduceAdd, Nat.reduceLeDiff, Nat.zero_add, decide_eq_true_eq, x_obj0, put0, put1, put2, ic0, ic1, ic2, ic3, ic4, ic5, ic6, ic7, ic8, ic9, ic10, ic11, ic12, ic13, ic14, ic15, ic16, ic17, ic18, ic19, ic20, ic21, ic22, ic23, Int.reduceEq, Int.reduceLT, Int.reduceLE, Int.reduceNeg, vB_var, vB_int, vB_str, vB_bl, vB_non, vB_glob, vB_tup, vB_lst, vB_dic0, vB_bin, vB_neg, vB_not, vB_and, vB_or, vB_cmp, vB_chain, vB_isN, vB_notN, vB_ifx, vB_sub, vB_slice, vB_call, vB_bi, vB_isi, vB_comp, vB_fmt, vB_fstr, vB_join, vB_own, rs_int, rs_str, rs_bl, rs_non, rs_tup, rs_lst, rs_dic, rs_scr, kFmt_ok, kJoin_ok, kJ_ok, kListM_ok, e_listM, e_fmt, e_fstr, e_join, j_nil, j_cons, kCmpC_ok, kCmpC_exc, s_ownAdd, s_appL, kOAdd_ok, kOAdd1_ok, addF_ok, sw_line_slide, sw_line_read, sw_line_try, sw_line_left, sw_line_right, sw_slide_line, sw_slide_read, sw_slide_try, sw_slide_left, sw_slide_right, sw_read_line, sw_read_slide, sw_read_try, sw_read_left, sw_read_right, sw_try_line, sw_try_slide, sw_try_read, sw_try_left, sw_try_right, sw_left_line, sw_left_slide, sw_left_read, sw_left_try, sw_left_right, sw_right_line, sw_right_slide, sw_right_read, sw_right_try, sw_right_left, it_lst, it_tup, kAppL_obj, kAppL1_ok, appF_ok, e_compI, cstep_ap, cst1_some, kCC_ok, kSome_ok, c_no, c_some, kCompI_ok, kCompE_ok, e_sset, e_lset, e_allL, i_seq, i_rng, i_rng2, i_enum, i_zip, kSeq_tup, kSeq_lst, kSeq_str, kSeq_exc, kRng2_ok, kEnum_lst, kZip_ok, kZip1_lst, vB_compI, vB_sset, vB_lset, vB_allL, rs_cdic, s_forI, s_ownExt, kForI_ok, kForI_exc, lstep_ap, lst1_some, kExt_lst, c_in, c_nin, s_aug, kAug_ok, au_add, au_sub, is_non_int, is_non_bool, is_non_str, is_non_tuple, is_non_list, is_non_dict, is_bl_int, is_bl_bool, is_bl_str, is_bl_tuple, is_bl_list, is_bl_dict, is_int_int, is_int_bool, is_int_str, is_int_tuple, is_int_list, is_int_dict, is_str_int, is_str_bool, is_str_str, is_str_tuple, is_str_list, is_str_dict, is_tup_int, is_tup_bool, is_tup_str, is_tup_tuple, is_tup_list, is_tup_dict, is_lst_int, is_lst_bool, is_lst_str, is_lst_tuple, is_lst_list, is_lst_dict, is_dic_int, is_dic_bool, is_dic_str, is_dic_tuple, is_dic_list, is_dic_dict, e_fld, e_prop, e_mcall, kFld_ok, kPrp_ok, kPrp1_some, kMth_ok, kMth1_some, kMth2_ok, rnox_ok, vB_fld, vB_prop, vB_mcall, s_setF, kSetF_ok, setFF_self, putD_nil])
local macro_rules | `(tactic| walk_at "p") => `(tactic| try simp only [e_var, e_int, e_str, e_bl, e_non, e_glob, e_tup, e_lst, e_lstM, e_dic0, e_bin, e_neg, e_not, e_and, e_or, e_cmp, e_chain, e_isN, e_notN, e_ifx, e_sub, e_slice, e_call, e_bi, e_isi, e_comp, es_nil, es_cons, o_no, o_some, t_val, t_and, t_or, t_not, t_cmp, t_chain, t_isN, t_notN, kCons_ok, kCons_exc, kCons1_ok, kCons1_exc, kTup_ok, kTup_exc, kLst_ok, kLst_exc, kLstM_ok, kCall_ok, kCall_exc, kBin_ok, kBin_exc, kBin1_ok, kBin1_exc, kNeg_ok, kNot_ok, kNot_exc, kAnd_ok, kAnd_exc, kOr_ok, kOr_exc, kCmp_ok, kCmp_exc, kCmp1_ok, kCmp1_exc, kCh_ok, kCh1_ok, kCh2_some, kIf_ok, kIf_exc, kSub_ok, kSub_exc, kSub1_ok, kSub1_exc, kSl_ok, kSl1_ok, kSl2_ok, kBi_ok, kBi_exc, kIsi_ok, kTru_bl, kTru_exc, kTAnd_ok, kTAnd_exc, kTOr_ok, kTOr_exc, kTNot_ok, kTNot_exc, kTB_ok, kTB_exc, kInt_ok, kIsN_non, kNotN_non, ofO_some, ss_nil, ss_cons, s_expr, s_set, s_par, s_asg, s_putL, s_ownNew, s_ownApp, s_freeze, s_ret, s_retN, s_ite, s_whl, s_forN, s_forR, s_brk, s_cont, s_pass, s_raise, s_try, sq_nx, sq_rt, sq_bk, sq_ct, sq_exc, kExpr_ok, kExpr_exc, kSet_ok, kSet_exc, kPar_ok, kPar_exc, kPar1_ok, kPar1_exc, kAsg_ok, kAsg_exc, kPut_ok, kPut1_ok, kPut2_ok, kOwn_ok, kApp_ok, kRet_ok, kRet_exc, kSIf_ok, kSIf_exc, kFor_tup, kFor_lst, kRun_nx, kRun_rt, kRun_exc, kTry_ok, kTry_exc, nox_ok, eq_ii, eq_ss, si0, si1, si2, si3, si4, si5, si6, si7, si8, si9, si10, si11, si12, si13, si14, si15, b_add, b_sub, c_lt, c_le, c_gt, c_ge, eq_ii, eq_ss, c_eq, c_ne, k_abs, k_int, k_intB, k_lenT, k_lenL, k_lenS, x_tup, x_lst, gi0, si0, gi1, si1, gi2, si2, gi3, si3, gi4, si4, gi5, si5, gi6, si6, gi7, si7, gi8, si8, gi9, si9, gi10, si10, gi11, si11, gi12, si12, gi13, si13, gi14, si14, gi15, si15, ri0, ri1, ri2, ri3, ri4, ri5, ri6, ri7, ri8, ri9, ri10, ri11, ai0, ai1, ai2, ai3, ai4, ai5, ai6, ai7, ai8, ai9, List.map_cons, List.map_nil, List.cons_append, List.nil_append, List.append_nil, Option.map_some, R.bind_ok, Bool.not_true, Bool.not_false, if_true, if_false, Bool.false_eq_true, decide_true, decide_false, Nat.reduceSub, bindT, bindTs, List.length_cons, List.length_nil, sizeLine_eq, Nat.reduceAdd, Nat.reduceLeDiff, Nat.zero_add, decide_eq_true_eq, x_obj0, put0, put1, put2, ic0, ic1, ic2, ic3, ic4, ic5, ic6, ic7, ic8, ic9, ic10, ic11, ic12, ic13, ic14, ic15, ic16, ic17, ic18, ic19, ic20, ic21, ic22, ic23, Int.reduceEq, Int.reduceLT, Int.reduceLE, Int.reduceNeg, vB_var, vB_int, vB_str, vB_bl, vB_non, vB_glob, vB_tup, vB_lst, vB_dic0, vB_bin, vB_neg, vB_not, vB_and, vB_or, vB_cmp, vB_chain, vB_isN, vB_notN, vB_ifx, vB_sub, vB_slice, vB_call, vB_bi, vB_isi, vB_comp, vB_fmt, vB_fstr, vB_join, vB_own, rs_int, rs_str, rs_bl, rs_non, rs_tup, rs_lst, rs_dic, rs_scr, kFmt_ok, kJoin_ok, kJ_ok, kListM_ok, e_listM, e_fmt, e_fstr, e_join, j_nil, j_cons, kCmpC_ok, kCmpC_exc, s_ownAdd, s_appL, kOAdd_ok, kOAdd1_ok, addF_ok, sw_line_slide, sw_line_read, sw_line_try, sw_line_left, sw_line_right, sw_slide_line, sw_slide_read, sw_slide_try, sw_slide_left, sw_slide_right, sw_read_line, sw_read_slide, sw_read_try, sw_read_left, sw_read_right, sw_try_line, sw_try_slide, sw_try_read, sw_try_left, sw_try_right, sw_left_line, sw_left_slide, sw_left_read, sw_left_try, sw_left_right, sw_right_line, sw_right_slide, sw_right_read, sw_right_try, sw_right_left, it_lst, it_tup, kAppL_obj, kAppL1_ok, appF_ok, e_compI, cstep_ap, cst1_some, kCC_ok, kSome_ok, c_no, c_some, kCompI_ok, kCompE_ok, e_sset, e_lset, e_allL, i_seq, i_rng, i_rng2, i_enum, i_zip, kSeq_tup, kSeq_lst, kSeq_str, kSeq_exc, kRng2_ok, kEnum_lst, kZip_ok, kZip1_lst, vB_compI, vB_sset, vB_lset, vB_allL, rs_cdic, s_forI, s_ownExt, kForI_ok, kForI_exc, lstep_ap, lst1_some, kExt_lst, c_in, c_nin, s_aug, kAug_ok, au_add, au_sub, is_non_int, is_non_bool, is_non_str, is_non_tuple, is_non_list, is_non_dict, is_bl_int, is_bl_bool, is_bl_str, is_bl_tuple, is_bl_list, is_bl_dict, is_int_int, is_int_bool, is_int_str, is_int_tuple, is_int_list, is_int_dict, is_str_int, is_str_bool, is_str_str, is_str_tuple, is_str_list, is_str_dict, is_tup_int, is_tup_bool, is_tup_str, is_tup_tuple, is_tup_list, is_tup_dict, is_lst_int, is_lst_bool, is_lst_str, is_lst_tuple, is_lst_list, is_lst_dict, is_dic_int, is_dic_bool, is_dic_str, is_dic_tuple, is_dic_list, is_dic_dict, e_fld, e_prop, e_mcall, kFld_ok, kPrp_ok, kPrp1_some, kMth_ok, kMth1_some, kMth2_ok, rnox_ok, vB_fld, vB_prop, vB_mcall, s_setF, kSetF_ok, setFF_self, putD_nil])
local macro_rules | `(tactic| walk_at "pvh") => `(tactic| simp only [e_var, e_int, e_str, e_bl, e_non, e_glob, e_tup, e_lst, e_lstM, e_dic0, e_bin, e_neg, e_not, e_and, e_or, e_cmp, e_chain, e_isN, e_notN, e_ifx, e_sub, e_slice, e_call, e_bi, e_isi, e_comp, es_nil, es_cons, o_no, o_some, t_val, t_and, t_or, t_not, t_cmp, t_chain, t_isN, t_notN, kCons_ok, kCons_exc, kCons1_ok, kCons1_exc, kTup_ok, kTup_exc, kLst_ok, kLst_exc, kLstM_ok, kCall_ok, kCall_exc, kBin_ok, kBin_exc, kBin1_ok, kBin1_exc, kNeg_ok, kNot_ok, kNot_exc, kAnd_ok, kAnd_exc, kOr_ok, kOr_exc, kCmp_ok, kCmp_exc, kCmp1_ok, kCmp1_exc, kCh_ok, kCh1_ok, kCh2_some, kIf_ok, kIf_exc, kSub_ok, kSub_exc, kSub1_ok, kSub1_exc, kSl_ok, kSl1_ok, kSl2_ok, kBi_ok, kBi_exc, kIsi_ok, kTru_bl, kTru_exc, kTAnd_ok, kTAnd_exc, kTOr_ok, kTOr_exc, kTNot_ok, kTNot_exc, kTB_ok, kTB_exc, kInt_ok, kIsN_non, kNotN_non, ofO_some, ss_nil, ss_cons, s_expr, s_set, s_par, s_asg, s_putL, s_ownNew, s_ownApp, s_freeze, s_ret, s_retN, s_ite, s_whl, s_forN, s_forR, s_brk, s_cont, s_pass, s_raise, s_try, sq_nx, sq_rt, sq_bk, sq_ct, sq_exc, kExpr_ok, kExpr_exc, kSet_ok, kSet_exc, kPar_ok, kPar_exc, kPar1_ok, kPar1_exc, kAsg_ok, kAsg_exc, kPut_ok, kPut1_ok, kPut2_ok, kOwn_ok, kApp_ok, kRet_ok, kRet_exc, kSIf_ok, kSIf_exc, kFor_tup, kFor_lst, kRun_nx, kRun_rt, kRun_exc, kTry_ok, kTry_exc, nox_ok, eq_ii, eq_ss, si0, si1, si2, si3, si4, si5, si6, si7, si8, si9, si10, si11, si12, si13, si14, si15, b_add, b_sub, c_lt, c_le, c_gt, c_ge, eq_ii, eq_ss, c_eq, c_ne, k_abs, k_int, k_intB, k_lenT, k_lenL, k_lenS, x_tup, x_lst, gi0, si0, gi1, si1, gi2, si2, gi3, si3, gi4, si4, gi5, si5, gi6, si6, gi7, si7, gi8, si8, gi9, si9, gi10, si10, gi11, si11, gi12, si12, gi13, si13, gi14, si14, gi15, si15, ri0, ri1, ri2, ri3, ri4, ri5, ri6, ri7, ri8, ri9, ri10, ri11, ai0, ai1, ai2, ai3, ai4, ai5, ai6, ai7, ai8, ai9, List.map_cons, List.map_nil, List.cons_append, List.nil_append, List.append_nil, Option.map_some, R.bind_ok, Bool.not_true, Bool.not_false, if_true, if_false, Bool.false_eq_true, decide_true, decide_false, Nat.reduceSub, bindT, bindTs, List.length_cons, List.length_nil, sizeLine_eq, Nat.reduceAdd, Nat.reduceLeDiff, Nat.zero_add, decide_eq_true_eq, x_obj0, put0, put1, put2, ic0, ic1, ic2, ic3, ic4, ic5, ic6, ic7, ic8, ic9, ic10, ic11, ic12, ic13, ic14, ic15, ic16, ic17, ic18, ic19, ic20, ic21, ic22, ic23, Int.reduceEq, Int.reduceLT, Int.reduceLE, Int.reduceNeg, vB_var, vB_int, vB_str, vB_bl, vB_non, vB_glob, vB_tup, vB_lst, vB_dic0, vB_bin, vB_neg, vB_not, vB_and, vB_or, vB_cmp, vB_chain, vB_isN, vB_notN, vB_ifx, vB_sub, vB_slice, vB_call, vB_bi, vB_isi, vB_comp, vB_fmt, vB_fstr, vB_join, vB_own, rs_int, rs_str, rs_bl, rs_non, rs_tup, rs_lst, rs_dic, rs_scr, kFmt_ok, kJoin_ok, kJ_ok, kListM_ok, e_listM, e_fmt, e_fstr, e_join, j_nil, j_cons, kCmpC_ok, kCmpC_exc, s_ownAdd, s_appL, kOAdd_ok, kOAdd1_ok, addF_ok, sw_line_slide, sw_line_read, sw_line_try, sw_line_left, sw_line_right, sw_slide_line, sw_slide_read, sw_slide_try, sw_slide_left, sw_slide_right, sw_read_line, sw_read_slide, sw_read_try, sw_read_left, sw_read_right, sw_try_line, sw_try_slide, sw_try_read, sw_try_left, sw_try_right, sw_left_line, sw_left_slide, sw_left_read, sw_left_try, sw_left_right, sw_right_line, sw_right_slide, sw_right_read, sw_right_try, sw_right_left, it_lst, it_tup, kAppL_obj, kAppL1_ok, appF_ok, e_compI, cstep_ap, cst1_some, kCC_ok, kSome_ok, c_no, c_some, kCompI_ok, kCompE_ok, e_sset, e_lset, e_allL, i_seq, i_rng, i_rng2, i_enum, i_zip, kSeq_tup, kSeq_lst, kSeq_str, kSeq_exc, kRng2_ok, kEnum_lst, kZip_ok, kZip1_lst, vB_compI, vB_sset, vB_lset, vB_allL, rs_cdic, s_forI, s_ownExt, kForI_ok, kForI_exc, lstep_ap, lst1_some, kExt_lst, c_in, c_nin, s_aug, kAug_ok, au_add, au_sub, is_non_int, is_non_bool, is_non_str, is_non_tuple, is_non_list, is_non_dict, is_bl_int, is_bl_bool, is_bl_str, is_bl_tuple, is_bl_list, is_bl_dict, is_int_int, is_int_bool, is_int_str, is_int_tuple, is_int_list, is_int_dict, is_str_int, is_str_bool, is_str_str, is_str_tuple, is_str_list, is_str_dict, is_tup_int, is_tup_bool, is_tup_str, is_tup_tuple, is_tup_list, is_tup_dict, is_lst_int, is_lst_bool, is_lst_str, is_lst_tuple, is_lst_list, is_lst_dict, is_dic_int, is_dic_bool, is_dic_str, is_dic_tuple, is_dic_list, is_dic_dict, e_fld, e_prop, e_mcall, kFld_ok, kPrp_ok, kPrp1_some, kMth_ok, kMth1_some, kMth2_ok, rnox_ok, vB_fld, vB_prop, vB_mcall, s_setF, kSetF_ok, setFF_self, putD_nil, *])
section
variable {C : Cn} {t : Tbl}
/-! ### workings -/
inductive Fig where
  | nm (z : Str) | mk (p : Int × Int) | lft | rgt
inductive Stp where
  | line (sc : Str) (k : Int) (f : Fig) | slide (sc : Str) (k : Int) (f : Fig) | read (sc z : Str) | tr (a b : List Stp)
def figD : Fig → D
  | .nm z => .str z
  | .mk p => pP p
  | .lft => .str (Str.ofString "left")
  | .rgt => .str (Str.ofString "right")
mutual
def stD : Stp → D
  | .line sc k f => .tup [.str (Str.ofString "line"), .str sc, .int k, figD f]
  | .slide sc k f => .tup [.str (Str.ofString "slide"), .str sc, .int k, figD f]
  | .read sc z => .tup [.str (Str.ofString "read"), .str sc, .str z]
  | .tr a b => .tup [.str (Str.ofString "try"), .tup (stDs a), .tup (stDs b)]
def stDs : List Stp → List D
  | [] => []
  | s :: r => stD s :: stDs r
end
theorem stDs_eq : ∀ l : List Stp, stDs l = l.map stD
  | [] => by simp [stDs]
  | s :: r => by simp [stDs, stDs_eq r]
/-- the list of figures' names -/
def Figs (rest : S) (fd : D) (xs : List Str) : Prop := fd = .lst (xs.map .str) ∨ ∃ j, fd = .obj (j + 1) ∧ rest[j]? = some (.lst (xs.map .str))
theorem Figs.items {rest st : S} {fd : D} {xs : List Str} (f : Figs rest fd xs) (dk : Deck rest st) : itemsD st fd = some (xs.map .str) := by
  obtain ⟨g, s, c, rfl, _⟩ := dk.ex
  rcases f with rfl | ⟨j, rfl, e⟩
  · rfl
  · simp only [itemsD, List.getElem?_cons_succ, e]
theorem Figs.len {rest st : S} {fd : D} {xs : List Str} (f : Figs rest fd xs) (dk : Deck rest st) : biD st .len fd = some (.int (xs.length : Int)) := by
  have e := f.items dk
  rcases f with rfl | ⟨j, rfl, _⟩
  · rw [k_lenL, List.length_map]
  · simp only [biD, e, Option.map_some, List.length_map]
theorem str_mem {xs : List Str} {k : Int} (h0 : 0 ≤ k) (h1 : k < xs.length) : ∃ z, z ∈ xs ∧ L2.atI (xs.map D.str) k = some (.str z) := by
  obtain ⟨d, hd, e⟩ := atI_mem (xs := xs.map D.str) h0 (by rw [List.length_map]; exact h1)
  obtain ⟨z, hz, rfl⟩ := List.mem_map.mp hd
  exact ⟨z, hz, e⟩
theorem Figs.at {rest st : S} {fd : D} {xs : List Str} (f : Figs rest fd xs) (dk : Deck rest st) {k : Int} (h0 : 0 ≤ k) (h1 : k < xs.length) : ∃ z, z ∈ xs ∧ subD st fd (.int k) = some (.str z) := by
  have e := f.items dk
  obtain ⟨z, hz, e2⟩ := str_mem h0 h1
  refine ⟨z, hz, ?_⟩
  rcases f with rfl | ⟨j, rfl, _⟩
  · exact e2
  · simp only [subD, e, Option.bind_some, e2]
theorem sca_mem {xs : List Sca} {k : Int} (h0 : 0 ≤ k) (h1 : k < xs.length) : ∃ z, z ∈ xs ∧ L2.atI (xs.map scD) k = some (scD z) := by
  obtain ⟨d, hd, e⟩ := atI_mem (xs := xs.map scD) h0 (by rw [List.length_map]; exact h1)
  obtain ⟨z, hz, rfl⟩ := List.mem_map.mp hd
  exact ⟨z, hz, e⟩
/-- a figure that may stand there -/
def FigOk (xs : List Str) (k : Int) : Fig → Prop
  | .nm z => z ∈ xs
  | .mk p => Mant p
  | .lft => k = 0
  | .rgt => k = 0
theorem setting_ok (hk : t "_law_take" = some d_law_take) (hf : t "_law_frac" = some d_law_frac) (hm : t "_law_mantissa" = some d_law_mantissa) (ht : t "_law_setting" = some d_law_setting) (n : Nat) {rest st : S} (dk : Deck rest st)
    {ss : List Sca} (hs : ss ≠ []) (hl : ss.length ≤ 1000) (ho : ∀ s ∈ ss, ∃ c, ScOk c s) {w : Str} {fd : D} {xs : List Str} (fg : Figs rest fd xs) (hx : xs ≠ []) (hxl : xs.length ≤ 1000) :
    W (callN C t (n + 3) "_law_setting" [.obj 0, .tup (ss.map scD), .str w, fd] st) fun d s => ∃ (q : Sca) (k : Int) (f : Fig), q ∈ ss ∧ d = .tup [.str w, .str q.n, .int k, figD f] ∧ 0 ≤ k ∧ k < (q.t.natAbs : Int) ∧ FigOk xs k f ∧ Deck rest s := by
  have hsp := List.length_pos_iff.mpr hs
  have hxp := List.length_pos_iff.mpr hx
  refine W_run ht rfl ?_
  simp only [d_law_setting]
  walk_at "pv"
  rw [List.length_map]
  obtain ⟨k0, st0, h0, a0, b0, dk0⟩ := take_ok (C := C) hk (n + 1) (l := (ss.length : Int)) (by omega) (pow_up (j := 64) (by omega) (by decide)) dk
  rw [h0]
  obtain ⟨q, hq, e0⟩ := sca_mem a0 b0
  walk_at "pv"
  rw [e0]
  obtain ⟨c, oq⟩ := ho q hq
  have t0 := oq.t0
  have t1 := oq.t1
  have t2 := oq.t2
  obtain ⟨k1, st1, h1, a1, b1, dk1⟩ := take_ok (C := C) hk (n + 1) (l := (q.t.natAbs : Int)) (by omega) (pow_up (j := 64) (by omega) (by decide)) dk0
  simp only [scD]
  walk_at "pv"
  rw [h1]
  walk_at "pv"
  obtain ⟨k2, st2, h2, a2, b2, dk2⟩ := take_ok (C := C) hk (n + 1) (l := 5) (by decide) (by decide) dk1
  rw [h2]
  walk_at "pv"
  split
  · obtain ⟨k3, st3, h3, a3, b3, dk3⟩ := take_ok (C := C) hk (n + 1) (l := 2) (by decide) (by decide) dk2
    rw [h3]
    walk_at "pv"
    have hc : k3 = 0 ∨ k3 = 1 := by omega
    rcases hc with rfl | rfl
    · walk_at "pv"
      exact B.rt ⟨q, 0, .lft, hq, rfl, by omega, by omega, rfl, dk3⟩
    · walk_at "pv"
      exact B.rt ⟨q, 0, .rgt, hq, rfl, by omega, by omega, rfl, dk3⟩
  · walk_at "pv"
    split
    · obtain ⟨p, st3, h3, mp, dk3⟩ := mantissa_ok (C := C) hk hf hm n dk2
      rw [h3]
      walk_at "pv"
      exact B.rt ⟨q, k1, .mk p, hq, rfl, a1, b1, mp, dk3⟩
    · walk_at "pv"
      rw [fg.len dk2]
      obtain ⟨k3, st3, h3, a3, b3, dk3⟩ := take_ok (C := C) hk (n + 1) (l := (xs.length : Int)) (by omega) (pow_up (j := 64) (by omega) (by decide)) dk2
      walk_at "pv"
      rw [h3]
      obtain ⟨z, hz, e3⟩ := fg.at dk3 a3 b3
      walk_at "pv"
      rw [e3]
      walk_at "pv"
      exact B.rt ⟨q, k1, .nm z, hq, rfl, a1, b1, hz, dk3⟩
/-! ### the working's law of scope -/
/-- a line or slide step of the rule whose figures' names are among xs -/
def SetIn (r : Rl) (xs : List Str) : Stp → Prop
  | .line sc k f => ∃ q, q ∈ r.b ++ r.s ∧ sc = q.n ∧ 0 ≤ k ∧ k < (q.t.natAbs : Int) ∧ FigOk xs k f
  | .slide sc k f => ∃ q, q ∈ r.s ∧ sc = q.n ∧ 0 ≤ k ∧ k < (q.t.natAbs : Int) ∧ FigOk xs k f
  | _ => False
def ScIn (r : Rl) (sc : Str) : Prop := ∃ q, q ∈ r.b ++ r.s ∧ sc = q.n
theorem SetIn.mono {r : Rl} {xs ys : List Str} (h : ∀ z ∈ xs, z ∈ ys) : ∀ {s : Stp}, SetIn r xs s → SetIn r ys s := by
  have fg : ∀ {k : Int} {f : Fig}, FigOk xs k f → FigOk ys k f := by
    intro k f q
    cases f with
    | nm z => exact h z q
    | _ => exact q
  intro s q
  cases s with
  | line sc k f => obtain ⟨a, h1, h2, h3, h4, h5⟩ := q; exact ⟨a, h1, h2, h3, h4, fg h5⟩
  | slide sc k f => obtain ⟨a, h1, h2, h3, h4, h5⟩ := q; exact ⟨a, h1, h2, h3, h4, fg h5⟩
  | _ => exact q
/-- steps in scope: what is known ahead, the steps, what is known behind; ns are the notes -/
inductive Scp (r : Rl) (xs ns : List Str) : List Str → List Stp → List Str → Prop where
  | nil {k : List Str} : Scp r xs ns k [] k
  | set {k k' : List Str} {s : Stp} {l : List Stp} : SetIn r (xs ++ k) s → Scp r xs ns k l k' → Scp r xs ns k (s :: l) k'
  | read {k k' : List Str} {sc z : Str} {l : List Stp} : ScIn r sc → z ∈ ns → z ∉ k → Scp r xs ns (k ++ [z]) l k' → Scp r xs ns k (.read sc z :: l) k'
  | tr {k k1 k2 k' : List Str} {a b l : List Stp} : a ≠ [] → Scp r xs ns k a k1 → Scp r xs ns k b k2 → Scp r xs ns (k1.filter fun z => decide (z ∈ k2)) l k' → Scp r xs ns k (.tr a b :: l) k'
theorem Scp.app {r : Rl} {xs ns k k1 k2 : List Str} {a b : List Stp} (h : Scp r xs ns k a k1) (h2 : Scp r xs ns k1 b k2) : Scp r xs ns k (a ++ b) k2 := by
  induction h with
  | nil => exact h2
  | set s _ ih => exact .set s (ih h2)
  | read s z n _ ih => exact .read s z n (ih h2)
  | tr n p q _ _ _ ih => exact .tr n p q (ih h2)
theorem Scp.sets {r : Rl} {xs ns k : List Str} : ∀ {l : List Stp}, (∀ s ∈ l, SetIn r (xs ++ k) s) → Scp r xs ns k l k
  | [], _ => .nil
  | s :: l, h => .set (h s List.mem_cons_self) (Scp.sets fun s hs => h s (List.mem_cons_of_mem _ hs))
mutual
def Stp.size : Stp → Nat
  | .tr a b => 1 + sizes a + sizes b
  | _ => 1
def sizes : List Stp → Nat
  | [] => 0
  | s :: l => s.size + sizes l
end
mutual
def Stp.depth : Stp → Nat
  | .tr a b => 1 + max (depths a) (depths b)
  | _ => 0
def depths : List Stp → Nat
  | [] => 0
  | s :: l => max s.depth (depths l)
end
theorem sizes_app : ∀ a b : List Stp, sizes (a ++ b) = sizes a + sizes b
  | [], b => by simp [sizes]
  | s :: a, b => by simp [sizes, sizes_app a b]; omega
theorem depths_app : ∀ a b : List Stp, depths (a ++ b) = max (depths a) (depths b)
  | [], b => by simp [depths]
  | s :: a, b => by simp only [List.cons_append, depths, depths_app a b, Nat.max_assoc]
theorem sizes_sets {r : Rl} {xs : List Str} : ∀ {l : List Stp}, (∀ s ∈ l, SetIn r xs s) → sizes l = l.length ∧ depths l = 0
  | [], _ => ⟨rfl, rfl⟩
  | s :: l, h => by
    obtain ⟨h1, h2⟩ := sizes_sets (l := l) fun s hs => h s (List.mem_cons_of_mem _ hs)
    have h3 := h s List.mem_cons_self
    cases s with
    | line sc k f =>
      simp only [sizes, depths, Stp.size, Stp.depth, h1, h2, List.length_cons]
      exact ⟨by omega, by simp⟩
    | slide sc k f =>
      simp only [sizes, depths, Stp.size, Stp.depth, h1, h2, List.length_cons]
      exact ⟨by omega, by simp⟩
    | _ => exact h3.elim
/-- a drawn working -/
structure WkOk (r : Rl) (xs ns : List Str) (l : List Stp) : Prop where
  scp : ∃ k, Scp r xs ns [] l k
  size : sizes l ≤ 10
  dep : depths l ≤ 2
  last : ∃ l' sc z, l = l' ++ [.read sc z]
/-! ### the drawn steps -/
theorem lplain_ok (hk : t "_law_take" = some d_law_take) (hf : t "_law_frac" = some d_law_frac) (hm : t "_law_mantissa" = some d_law_mantissa) (hs : t "_law_setting" = some d_law_setting) (ht : t "_law_plain" = some d_law_plain) (n : Nat) {rest st : S} (dk : Deck rest st)
    {r : Rl} (hr : RlOk r) {fd : D} {xs : List Str} (fg : Figs rest fd xs) (hx : xs ≠ []) (hxl : xs.length ≤ 1000) {m : Int} (h0 : 0 ≤ m) (h1 : m < 100) :
    W (callN C t (n + 4) "_law_plain" [.obj 0, rlD r, fd, .int m] st) fun d s => ∃ l : List Stp, d = .tup (l.map stD) ∧ l.length = m.toNat ∧ (∀ s ∈ l, SetIn r xs s) ∧ Deck rest s := by
  have lr := hr.len
  refine W_run ht rfl ?_
  simp only [d_law_plain]
  walk_at "pv"
  refine B_forR (by omega) (fun i env st => ∃ (l : List Stp) (s5 : Sl), env = [.val (.obj 0), .val (rlD r), .val fd, .val (.int m), .own (l.map stD), s5] ∧ l.length = i ∧ (∀ s ∈ l, SetIn r xs s) ∧ Deck rest st) ⟨[], .no, rfl, rfl, by simp, dk⟩ ?_ ?_ h0
  · rintro i env st hi ⟨l, s5, rfl, hl, hq, dk⟩
    have hz : (l.map stD).length < 16777216 := by rw [List.length_map]; omega
    obtain ⟨k0, st0, e0, a0, b0, dk0⟩ := take_ok (C := C) hk (n + 2) (l := 2) (by decide) (by decide) dk
    simp only [d_law_plain_b1, rlD]
    walk_at "pv"
    rw [e0]
    walk_at "pv"
    split
    · obtain ⟨d, st1, e1, q, k, f, hqm, rfl, g1, g2, g3, dk1⟩ := setting_ok (C := C) hk hf hm hs n (w := Str.ofString "slide") dk0 hr.s (by omega) (fun s h => hr.all s (List.mem_append_right _ h)) fg hx hxl
      rw [e1]
      walk_at "pv"
      rw [if_pos hz]
      refine B.nx ⟨l ++ [.slide q.n k f], _, by simp only [List.map_append, List.map_cons, List.map_nil, stD]; rfl, by simp [hl], fun s h => ?_, dk1⟩
      rcases List.mem_append.mp h with h | h
      · exact hq s h
      · rw [List.mem_singleton.mp h]; exact ⟨q, hqm, rfl, g1, g2, g3⟩
    · have e2 : binD .add (.tup (r.b.map scD)) (.tup (r.s.map scD)) = some (.tup ((r.b ++ r.s).map scD)) := by
        rw [List.map_append]
        exact b_addT (by rw [List.length_map, List.length_map, sizeLine_eq]; omega)
      obtain ⟨d, st1, e1, q, k, f, hqm, rfl, g1, g2, g3, dk1⟩ := setting_ok (C := C) hk hf hm hs n (w := Str.ofString "line") (ss := r.b ++ r.s) dk0 (by intro z; exact hr.s (List.append_eq_nil_iff.mp z).2) (by rw [List.length_append]; omega) hr.all fg hx hxl
      rw [e2]
      walk_at "pv"
      rw [e1]
      walk_at "pv"
      rw [if_pos hz]
      refine B.nx ⟨l ++ [.line q.n k f], _, by simp only [List.map_append, List.map_cons, List.map_nil, stD]; rfl, by simp [hl], fun s h => ?_, dk1⟩
      rcases List.mem_append.mp h with h | h
      · exact hq s h
      · rw [List.mem_singleton.mp h]; exact ⟨q, hqm, rfl, g1, g2, g3⟩
  · rintro env st ⟨l, s5, rfl, hl, hq, dk⟩
    have e : biD st .tuple (.lst (l.map stD)) = some (.tup (l.map stD)) := rfl
    walk_at "pv"
    rw [e]
    walk_at "pv"
    exact B.rt ⟨l, rfl, hl, hq, dk⟩
theorem read_ok (hk : t "_law_take" = some d_law_take) (ht : t "_law_read" = some d_law_read) (n : Nat) {rest st : S} (dk : Deck rest st) {r : Rl} (hr : RlOk r) {z : Str} :
    ∃ sc s, callN C t (n + 2) "_law_read" [.obj 0, rlD r, .str z] st = .ok (stD (.read sc z)) s ∧ ScIn r sc ∧ Deck rest s := by
  suffices h : W (callN C t (n + 2) "_law_read" [.obj 0, rlD r, .str z] st) fun d s => ∃ sc, d = stD (.read sc z) ∧ ScIn r sc ∧ Deck rest s by
    obtain ⟨d, s, e, sc, rfl, h1, h2⟩ := h
    exact ⟨sc, s, e, h1, h2⟩
  have lr := hr.len
  have lp := List.length_pos_iff.mpr hr.s
  have e2 : binD .add (.tup (r.b.map scD)) (.tup (r.s.map scD)) = some (.tup ((r.b ++ r.s).map scD)) := by
    rw [List.map_append]
    exact b_addT (by rw [List.length_map, List.length_map, sizeLine_eq]; omega)
  obtain ⟨k0, st0, h0, a0, b0, dk0⟩ := take_ok (C := C) hk n (l := ((r.b ++ r.s).length : Int)) (by rw [List.length_append]; omega) (pow_up (j := 64) (by rw [List.length_append]; omega) (by decide)) dk
  obtain ⟨q, hq, e0⟩ := sca_mem a0 b0
  refine W_run ht rfl ?_
  simp only [d_law_read, rlD]
  walk_at "pv"
  rw [e2]
  walk_at "pv"
  rw [e2]
  walk_at "pv"
  rw [List.length_map, h0]
  walk_at "pv"
  rw [e0]
  simp only [scD]
  walk_at "pv"
  exact B.rt ⟨q.n, rfl, ⟨q, hq, rfl⟩, dk0⟩
end
end PV

set_option Elab.async false
set_option linter.all false
set_option maxRecDepth 100000
set_option maxHeartbeats 1000000
set_option exponentiation.threshold 30000
set_option pp.maxSteps 600
set_option pp.deepTerms false
set_option pp.deepTerms.threshold 6
namespace PV
open PySem PySem.Spec PyProof.Rows L2
local macro_rules | `(tactic| walk_at "pv") => `(tactic| simp only [e_var, e_int, e_str, e_bl, e_non, e_glob, e_tup, e_lst, e_lstM, e_dic0, e_bin, e_neg, e_not, e_and, e_or, e_cmp, e_chain, e_isN, e_notN, e_ifx, e_sub, e_slice, e_call, e_bi, e_isi, e_comp, es_nil, es_cons, o_no, o_some, t_val, t_and, t_or, t_not, t_cmp, t_chain, t_isN, t_notN, kCons_ok, kCons_exc, kCons1_ok, kCons1_exc, kTup_ok, kTup_exc, kLst_ok, kLst_exc, kLstM_ok, kCall_ok, kCall_exc, kBin_ok, kBin_exc, kBin1_ok, kBin1_exc, kNeg_ok, kNot_ok, kNot_exc, kAnd_ok, kAnd_exc, kOr_ok, kOr_exc, kCmp_ok, kCmp_exc, kCmp1_ok, kCmp1_exc, kCh_ok, kCh1_ok, kCh2_some, kIf_ok, kIf_exc, kSub_ok, kSub_exc, kSub1_ok, kSub1_exc, kSl_ok, kSl1_ok, kSl2_ok, kBi_ok, kBi_exc, kIsi_ok, kTru_bl, kTru_exc, kTAnd_ok, kTAnd_exc, kTOr_ok, kTOr_exc, kTNot_ok, kTNot_exc, kTB_ok, kTB_exc, kInt_ok, kIsN_non, kNotN_non, ofO_some, ss_nil, ss_cons, s_expr, s_set, s_par, s_asg, s_putL, s_ownNew, s_ownApp, s_freeze, s_ret, s_retN, s_ite, s_whl, s_forN, s_forR, s_brk, s_cont, s_pass, s_raise, s_try, sq_nx, sq_rt, sq_bk, sq_ct, sq_exc, kExpr_ok, kExpr_exc, kSet_ok, kSet_exc, kPar_ok, kPar_exc, kPar1_ok, kPar1_exc, kAsg_ok, kAsg_exc, kPut_ok, kPut1_ok, kPut2_ok, kOwn_ok, kApp_ok, kRet_ok, kRet_exc, kSIf_ok, kSIf_exc, kFor_tup, kFor_lst, kRun_nx, kRun_rt, kRun_exc, kTry_ok, kTry_exc, nox_ok, eq_ii, eq_ss, si0, si1, si2, si3, si4, si5, si6, si7, si8, si9, si10, si11, si12, si13, si14, si15, b_add, b_sub, c_lt, c_le, c_gt, c_ge, eq_ii, eq_ss, c_eq, c_ne, k_abs, k_int, k_intB, k_lenT, k_lenL, k_lenS, x_tup, x_lst, gi0, si0, gi1, si1, gi2, si2, gi3, si3, gi4, si4, gi5, si5, gi6, si6, gi7, si7, gi8, si8, gi9, si9, gi10, si10, gi11, si11, gi12, si12, gi13, si13, gi14, si14, gi15, si15, ri0, ri1, ri2, ri3, ri4, ri5, ri6, ri7, ri8, ri9, ri10, ri11, ai0, ai1, ai2, ai3, ai4, ai5, ai6, ai7, ai8, ai9, List.map_cons, List.map_nil, List.cons_append, List.nil_append, List.append_nil, Option.map_some, R.bind_ok, Bool.not_true, Bool.not_false, if_true, if_false, Bool.false_eq_true, decide_true, decide_false, Nat.reduceSub, bindT, bindTs, List.length_cons, List.length_nil, sizeLine_eq, Nat.reduceAdd, Nat.reduceLeDiff, Nat.zero_add, decide_eq_true_eq, x_obj0, put0, put1, put2, ic0, ic1, ic2, ic3, ic4, ic5, ic6, ic7, ic8, ic9, ic10, ic11, ic12, ic13, ic14, ic15, ic16, ic17, ic18, ic19, ic20, ic21, ic22, ic23, Int.reduceEq, Int.reduceLT, Int.reduceLE, Int.reduceNeg, vB_var, vB_int, vB_str, vB_bl, vB_non, vB_glob, vB_tup, vB_lst, vB_dic0, vB_bin, vB_neg, vB_not, vB_and, vB_or, vB_cmp, vB_chain, vB_isN, vB_notN, vB_ifx, vB_sub, vB_slice, vB_call, vB_bi, vB_isi, vB_comp, vB_fmt, vB_fstr, vB_join, vB_own, rs_int, rs_str, rs_bl, rs_non, rs_tup, rs_lst, rs_dic, rs_scr, kFmt_ok, kJoin_ok, kJ_ok, kListM_ok, e_listM, e_fmt, e_fstr, e_join, j_nil, j_cons, kCmpC_ok, kCmpC_exc, s_ownAdd, s_appL, kOAdd_ok, kOAdd1_ok, addF_ok, sw_line_slide, sw_line_read, sw_line_try, sw_line_left, sw_line_right, sw_slide_line, sw_slide_read, sw_slide_try, sw_slide_left, sw_slide_right, sw_read_line, sw_read_slide, sw_read_try, sw_read_left, sw_read_right, sw_try_line, sw_try_slide, sw_try_read, sw_try_left, sw_try_right, sw_left_line, sw_left_slide, sw_left_read, sw_left_try, sw_left_right, sw_right_line, sw_right_slide, sw_right_read, sw_right_try, sw_right_left, it_lst, it_tup, kAppL_obj, kAppL1_ok, appF_ok, e_compI, cstep_ap, cst1_some, kCC_ok, kSome_ok, c_no, c_some, kCompI_ok, kCompE_ok, e_sset, e_lset, e_allL, i_seq, i_rng, i_rng2, i_enum, i_zip, kSeq_tup, kSeq_lst, kSeq_str, kSeq_exc, kRng2_ok, kEnum_lst, kZip_ok, kZip1_lst, vB_compI, vB_sset, vB_lset, vB_allL, rs_cdic, s_forI, s_ownExt, kForI_ok, kForI_exc, lstep_ap, lst1_some, kExt_lst, c_in, c_nin, s_aug, kAug_ok, au_add, au_sub, is_non_int, is_non_bool, is_non_str, is_non_tuple, is_non_list, is_non_dict, is_bl_int, is_bl_bool, is_bl_str, is_bl_tuple, is_bl_list, is_bl_dict, is_int_int, is_int_bool, is_int_str, is_int_tuple, is_int_list, is_int_dict, is_str_int, is_str_bool, is_str_str, is_str_tuple, is_str_list, is_str_dict, is_tup_int, is_tup_bool, is_tup_str, is_tup_tuple, is_tup_list, is_tup_dict, is_lst_int, is_lst_bool, is_lst_str, is_lst_tuple, is_lst_list, is_lst_dict, is_dic_int, is_dic_bool, is_dic_str, is_dic_tuple, is_dic_list, is_dic_dict, e_fld, e_prop, e_mcall, kFld_ok, kPrp_ok, kPrp1_some, kMth_ok, kMth1_some, kMth2_ok, rnox_ok, vB_fld, vB_prop, vB_mcall, s_setF, kSetF_ok, setFF_self, putD_nil])
local macro_rules | `(tactic| walk_at "p") => `(tactic| try simp only [e_var, e_int, e_str, e_bl, e_non, e_glob, e_tup, e_lst, e_lstM, e_dic0, e_bin, e_neg, e_not, e_and, e_or, e_cmp, e_chain, e_isN, e_notN, e_ifx, e_sub, e_slice, e_call, e_bi, e_isi, e_comp, es_nil, es_cons, o_no, o_some, t_val, t_and, t_or, t_not, t_cmp, t_chain, t_isN, t_notN, kCons_ok, kCons_exc, kCons1_ok, kCons1_exc, kTup_ok, kTup_exc, kLst_ok, kLst_exc, kLstM_ok, kCall_ok, kCall_exc, kBin_ok, kBin_exc, kBin1_ok, kBin1_exc, kNeg_ok, kNot_ok, kNot_exc, kAnd_ok, kAnd_exc, kOr_ok, kOr_exc, kCmp_ok, kCmp_exc, kCmp1_ok, kCmp1_exc, kCh_ok, kCh1_ok, kCh2_some, kIf_ok, kIf_exc, kSub_ok, kSub_exc, kSub1_ok, kSub1_exc, kSl_ok, kSl1_ok, kSl2_ok, kBi_ok, kBi_exc, kIsi_ok, kTru_bl, kTru_exc, kTAnd_ok, kTAnd_exc, kTOr_ok, kTOr_exc, kTNot_ok, kTNot_exc, kTB_ok, kTB_exc, kInt_ok, kIsN_non, kNotN_non, ofO_some, ss_nil, ss_cons, s_expr, s_set, s_par, s_asg, s_putL, s_ownNew, s_ownApp, s_freeze, s_ret, s_retN, s_ite, s_whl, s_forN, s_forR, s_brk, s_cont, s_pass, s_raise, s_try, sq_nx, sq_rt, sq_bk, sq_ct, sq_exc, kExpr_ok, kExpr_exc, kSet_ok, kSet_exc, kPar_ok, kPar_exc, kPar1_ok, kPar1_exc, kAsg_ok, kAsg_exc, kPut_ok, kPut1_ok, kPut2_ok, kOwn_ok, kApp_ok, kRet_ok, kRet_exc, kSIf_ok, kSIf_exc, kFor_tup, kFor_lst, kRun_nx, kRun_rt, kRun_exc, kTry_ok, kTry_exc, nox_ok, eq_ii, eq_ss, si0, si1, si2, si3, si4, si5, si6, si7, si8, si9, si10, si11, si12, si13, si14, si15, b_add, b_sub, c_lt, c_le, c_gt, c_ge, eq_ii, eq_ss, c_eq, c_ne, k_abs, k_int, k_intB, k_lenT, k_lenL, k_lenS, x_tup, x_lst, gi0, si0, gi1, si1, gi2, si2, gi3, si3, gi4, si4, gi5, si5, gi6, si6, gi7, si7, gi8, si8, gi9, si9, gi10, si10, gi11, si11, gi12, si12, gi13, si13, gi14, si14, gi15, si15, ri0, ri1, ri2, ri3, ri4, ri5, ri6, ri7, ri8, ri9, ri10, ri11, ai0, ai1, ai2, ai3, ai4, ai5, ai6, ai7, ai8, ai9, List.map_cons, List.map_nil, List.cons_append, List.nil_append, List.append_nil, Option.map_some, R.bind_ok, Bool.not_true, Bool.not_false, if_true, if_false, Bool.false_eq_true, decide_true, decide_false, Nat.reduceSub, bindT, bindTs, List.length_cons, List.length_nil, sizeLine_eq, Nat.reduceAdd, Nat.reduceLeDiff, Nat.zero_add, decide_eq_true_eq, x_obj0, put0, put1, put2, ic0, ic1, ic2, ic3, ic4, ic5, ic6, ic7, ic8, ic9, ic10, ic11, ic12, ic13, ic14, ic15, ic16, ic17, ic18, ic19, ic20, ic21, ic22, ic23, Int.reduceEq, Int.reduceLT, Int.reduceLE, Int.reduceNeg, vB_var, vB_int, vB_str, vB_bl, vB_non, vB_glob, vB_tup, vB_lst, vB_dic0, vB_bin, vB_neg, vB_not, vB_and, vB_or, vB_cmp, vB_chain, vB_isN, vB_notN, vB_ifx, vB_sub, vB_slice, vB_call, vB_bi, vB_isi, vB_comp, vB_fmt, vB_fstr, vB_join, vB_own, rs_int, rs_str, rs_bl, rs_non, rs_tup, rs_lst, rs_dic, rs_scr, kFmt_ok, kJoin_ok, kJ_ok, kListM_ok, e_listM, e_fmt, e_fstr, e_join, j_nil, j_cons, kCmpC_ok, kCmpC_exc, s_ownAdd, s_appL, kOAdd_ok, kOAdd1_ok, addF_ok, sw_line_slide, sw_line_read, sw_line_try, sw_line_left, sw_line_right, sw_slide_line, sw_slide_read, sw_slide_try, sw_slide_left, sw_slide_right, sw_read_line, sw_read_slide, sw_read_try, sw_read_left, sw_read_right, sw_try_line, sw_try_slide, sw_try_read, sw_try_left, sw_try_right, sw_left_line, sw_left_slide, sw_left_read, sw_left_try, sw_left_right, sw_right_line, sw_right_slide, sw_right_read, sw_right_try, sw_right_left, it_lst, it_tup, kAppL_obj, kAppL1_ok, appF_ok, e_compI, cstep_ap, cst1_some, kCC_ok, kSome_ok, c_no, c_some, kCompI_ok, kCompE_ok, e_sset, e_lset, e_allL, i_seq, i_rng, i_rng2, i_enum, i_zip, kSeq_tup, kSeq_lst, kSeq_str, kSeq_exc, kRng2_ok, kEnum_lst, kZip_ok, kZip1_lst, vB_compI, vB_sset, vB_lset, vB_allL, rs_cdic, s_forI, s_ownExt, kForI_ok, kForI_exc, lstep_ap, lst1_some, kExt_lst, c_in, c_nin, s_aug, kAug_ok, au_add, au_sub, is_non_int, is_non_bool, is_non_str, is_non_tuple, is_non_list, is_non_dict, is_bl_int, is_bl_bool, is_bl_str, is_bl_tuple, is_bl_list, is_bl_dict, is_int_int, is_int_bool, is_int_str, is_int_tuple, is_int_list, is_int_dict, is_str_int, is_str_bool, is_str_str, is_str_tuple, is_str_list, is_str_dict, is_tup_int, is_tup_bool, is_tup_str, is_tup_tuple, is_tup_list, is_tup_dict, is_lst_int, is_lst_bool, is_lst_str, is_lst_tuple, is_lst_list, is_lst_dict, is_dic_int, is_dic_bool, is_dic_str, is_dic_tuple, is_dic_list, is_dic_dict, e_fld, e_prop, e_mcall, kFld_ok, kPrp_ok, kPrp1_some, kMth_ok, kMth1_some, kMth2_ok, rnox_ok, vB_fld, vB_prop, vB_mcall, s_setF, kSetF_ok, setFF_self, putD_nil])
local macro_rules | `(tactic| walk_at "pvh") => `(tactic| simp only [e_var, e_int, e_str, e_bl, e_non, e_glob, e_tup, e_lst, e_lstM, e_dic0, e_bin, e_neg, e_not, e_and, e_or, e_cmp, e_chain, e_isN, e_notN, e_ifx, e_sub, e_slice, e_call, e_bi, e_isi, e_comp, es_nil, es_cons, o_no, o_some, t_val, t_and, t_or, t_not, t_cmp, t_chain, t_isN, t_notN, kCons_ok, kCons_exc, kCons1_ok, kCons1_exc, kTup_ok, kTup_exc, kLst_ok, kLst_exc, kLstM_ok, kCall_ok, kCall_exc, kBin_ok, kBin_exc, kBin1_ok, kBin1_exc, kNeg_ok, kNot_ok, kNot_exc, kAnd_ok, kAnd_exc, kOr_ok, kOr_exc, kCmp_ok, kCmp_exc, kCmp1_ok, kCmp1_exc, kCh_ok, kCh1_ok, kCh2_some, kIf_ok, kIf_exc, kSub_ok, kSub_exc, kSub1_ok, kSub1_exc, kSl_ok, kSl1_ok, kSl2_ok, kBi_ok, kBi_exc, kIsi_ok, kTru_bl, kTru_exc, kTAnd_ok, kTAnd_exc, kTOr_ok, kTOr_exc, kTNot_ok, kTNot_exc, kTB_ok, kTB_exc, kInt_ok, kIsN_non, kNotN_non, ofO_some, ss_nil, ss_cons, s_expr, s_set, s_par, s_asg, s_putL, s_ownNew, s_ownApp, s_freeze, s_ret, s_retN, s_ite, s_whl, s_forN, s_forR, s_brk, s_cont, s_pass, s_raise, s_try, sq_nx, sq_rt, sq_bk, sq_ct, sq_exc, kExpr_ok, kExpr_exc, kSet_ok, kSet_exc, kPar_ok, kPar_exc, kPar1_ok, kPar1_exc, kAsg_ok, kAsg_exc, kPut_ok, kPut1_ok, kPut2_ok, kOwn_ok, kApp_ok, kRet_ok, kRet_exc, kSIf_ok, kSIf_exc, kFor_tup, kFor_lst, kRun_nx, kRun_rt, kRun_exc, kTry_ok, kTry_exc, nox_ok, eq_ii, eq_ss, si0, si1, si2, si3, si4, si5, si6, si7, si8, si9, si10, si11, si12, si13, si14, si15, b_add, b_sub, c_lt, c_le, c_gt, c_ge, eq_ii, eq_ss, c_eq, c_ne, k_abs, k_int, k_intB, k_lenT, k_lenL, k_lenS, x_tup, x_lst, gi0, si0, gi1, si1, gi2, si2, gi3, si3, gi4, si4, gi5, si5, gi6, si6, gi7, si7, gi8, si8, gi9, si9, gi10, si10, gi11, si11, gi12, si12, gi13, si13, gi14, si14, gi15, si15, ri0, ri1, ri2, ri3, ri4, ri5, ri6, ri7, ri8, ri9, ri10, ri11, ai0, ai1, ai2, ai3, ai4, ai5, ai6, ai7, ai8, ai9, List.map_cons, List.map_nil, List.cons_append, List.nil_append, List.append_nil, Option.map_some, R.bind_ok, Bool.not_true, Bool.not_false, if_true, if_false, Bool.false_eq_true, decide_true, decide_false, Nat.reduceSub, bindT, bindTs, List.length_cons, List.length_nil, sizeLine_eq, Nat.reduceAdd, Nat.reduceLeDiff, Nat.zero_add, decide_eq_true_eq, x_obj0, put0, put1, put2, ic0, ic1, ic2, ic3, ic4, ic5, ic6, ic7, ic8, ic9, ic10, ic11, ic12, ic13, ic14, ic15, ic16, ic17, ic18, ic19, ic20, ic21, ic22, ic23, Int.reduceEq, Int.reduceLT, Int.reduceLE, Int.reduceNeg, vB_var, vB_int, vB_str, vB_bl, vB_non, vB_glob, vB_tup, vB_lst, vB_dic0, vB_bin, vB_neg, vB_not, vB_and, vB_or, vB_cmp, vB_chain, vB_isN, vB_notN, vB_ifx, vB_sub, vB_slice, vB_call, vB_bi, vB_isi, vB_comp, vB_fmt, vB_fstr, vB_join, vB_own, rs_int, rs_str, rs_bl, rs_non, rs_tup, rs_lst, rs_dic, rs_scr, kFmt_ok, kJoin_ok, kJ_ok, kListM_ok, e_listM, e_fmt, e_fstr, e_join, j_nil, j_cons, kCmpC_ok, kCmpC_exc, s_ownAdd, s_appL, kOAdd_ok, kOAdd1_ok, addF_ok, sw_line_slide, sw_line_read, sw_line_try, sw_line_left, sw_line_right, sw_slide_line, sw_slide_read, sw_slide_try, sw_slide_left, sw_slide_right, sw_read_line, sw_read_slide, sw_read_try, sw_read_left, sw_read_right, sw_try_line, sw_try_slide, sw_try_read, sw_try_left, sw_try_right, sw_left_line, sw_left_slide, sw_left_read, sw_left_try, sw_left_right, sw_right_line, sw_right_slide, sw_right_read, sw_right_try, sw_right_left, it_lst, it_tup, kAppL_obj, kAppL1_ok, appF_ok, e_compI, cstep_ap, cst1_some, kCC_ok, kSome_ok, c_no, c_some, kCompI_ok, kCompE_ok, e_sset, e_lset, e_allL, i_seq, i_rng, i_rng2, i_enum, i_zip, kSeq_tup, kSeq_lst, kSeq_str, kSeq_exc, kRng2_ok, kEnum_lst, kZip_ok, kZip1_lst, vB_compI, vB_sset, vB_lset, vB_allL, rs_cdic, s_forI, s_ownExt, kForI_ok, kForI_exc, lstep_ap, lst1_some, kExt_lst, c_in, c_nin, s_aug, kAug_ok, au_add, au_sub, is_non_int, is_non_bool, is_non_str, is_non_tuple, is_non_list, is_non_dict, is_bl_int, is_bl_bool, is_bl_str, is_bl_tuple, is_bl_list, is_bl_dict, is_int_int, is_int_bool, is_int_str, is_int_tuple, is_int_list, is_int_dict, is_str_int, is_str_bool, is_str_str, is_str_tuple, is_str_list, is_str_dict, is_tup_int, is_tup_bool, is_tup_str, is_tup_tuple, is_tup_list, is_tup_dict, is_lst_int, is_lst_bool, is_lst_str, is_lst_tuple, is_lst_list, is_lst_dict, is_dic_int, is_dic_bool, is_dic_str, is_dic_tuple, is_dic_list, is_dic_dict, e_fld, e_prop, e_mcall, kFld_ok, kPrp_ok, kPrp1_some, kMth_ok, kMth1_some, kMth2_ok, rnox_ok, vB_fld, vB_prop, vB_mcall, s_setF, kSetF_ok, setFF_self, putD_nil, *])
section
variable {C : Cn} {t : Tbl}
structure WT (t : Tbl) : Prop where
  take : t "_law_take" = some d_law_take
  frac : t "_law_frac" = some d_law_frac
  mant : t "_law_mantissa" = some d_law_mantissa
  setting : t "_law_setting" = some d_law_setting
  plain : t "_law_plain" = some d_law_plain
  read : t "_law_read" = some d_law_read
theorem listM_lst {xs : List D} {s : S} : kListM (.ok (.lst xs) s) = .ok (.obj s.length) (s ++ [.lst xs]) := rfl
theorem b_st {a b : List Stp} (h : a.length + b.length ≤ 1000) : binD .add (.tup (a.map stD)) (.tup (b.map stD)) = some (.tup ((a ++ b).map stD)) := by
  rw [List.map_append]
  exact b_addT (by rw [List.length_map, List.length_map, sizeLine_eq]; omega)
theorem b_st1 {a : List Stp} {x : Stp} (h : a.length < 1000) : binD .add (.tup (a.map stD)) (.tup [stD x]) = some (.tup ((a ++ [x]).map stD)) := b_st (b := [x]) (by simp; omega)
theorem tr_eq {a b : List Stp} : D.tup [.str (Str.ofString "try"), .tup (a.map stD), .tup (b.map stD)] = stD (.tr a b) := by simp only [stD, stDs_eq]
theorem sl_to {s : S} {l : List Stp} {c : Int} (h : 0 ≤ c) : sliceD s (.tup (l.map stD)) none (some c) = some (.tup ((l.take c.toNat).map stD)) := by
  show some (D.tup (PV.cutD (l.map stD) none (some c))) = _
  rw [cut_map, cut_to h]
theorem sl_fr {s : S} {l : List Stp} {c : Int} (h : 0 ≤ c) : sliceD s (.tup (l.map stD)) (some c) none = some (.tup ((l.drop c.toNat).map stD)) := by
  show some (D.tup (PV.cutD (l.map stD) (some c) none)) = _
  rw [cut_map, cut_from h]
theorem sl_t1 {s : S} {l : List Stp} : sliceD s (.tup (l.map stD)) none (some 1) = some (.tup ((l.take 1).map stD)) := sl_to (by decide)
theorem sl_t2 {s : S} {l : List Stp} : sliceD s (.tup (l.map stD)) none (some 2) = some (.tup ((l.take 2).map stD)) := sl_to (by decide)
theorem sl_f2 {s : S} {l : List Stp} : sliceD s (.tup (l.map stD)) (some 2) none = some (.tup ((l.drop 2).map stD)) := sl_fr (by decide)
theorem sl_12 {s : S} {l : List Stp} (h : l.length = 3) : sliceD s (.tup (l.map stD)) (some 1) (some 2) = some (.tup (((l.drop 1).take 1).map stD)) := by
  match l, h with
  | [a, b, c], _ => rfl
theorem Deck.push {rest st : S} {o : O} (dk : Deck rest st) : Deck (rest ++ [o]) (st ++ [o]) := by
  obtain ⟨g, s, c, rfl, h⟩ := dk.ex
  exact ⟨g, s, c, by simp, h⟩
theorem Deck.len {rest st : S} (dk : Deck rest st) : st.length = rest.length + 1 := by
  obtain ⟨g, s, c, rfl, h⟩ := dk.ex
  simp
theorem Deck.at {rest st : S} {o : O} (dk : Deck (rest ++ [o]) st) : st[rest.length + 1]? = some o := by
  obtain ⟨g, s, c, rfl, h⟩ := dk.ex
  simp
theorem Deck.put {rest st : S} {o o' : O} (dk : Deck (rest ++ [o]) st) : Deck (rest ++ [o']) (st.set (rest.length + 1) o') := by
  obtain ⟨g, s, c, rfl, h⟩ := dk.ex
  refine ⟨g, s, c, ?_, h⟩
  simp
theorem figs_last {rest : S} {xs : List Str} : Figs (rest ++ [.lst (xs.map .str)]) (.obj (rest.length + 1)) xs := .inr ⟨rest.length, rfl, by simp⟩
theorem wk_fin {r : Rl} {xs : List Str} {z0 z1 sc : Str} {l : List Stp} {k : List Str} (h : Scp r xs [z0, z1] [] l k) (hk : z1 ∉ k) (hs : ScIn r sc) (h1 : sizes l ≤ 9) (h2 : depths l ≤ 2) : WkOk r xs [z0, z1] (l ++ [.read sc z1]) :=
  ⟨⟨_, h.app (.read hs (by simp) hk .nil)⟩, by rw [sizes_app]; simp only [sizes, Stp.size]; omega, by rw [depths_app]; simp only [depths, Stp.depth]; omega, _, _, _, rfl⟩
theorem SetIn.nil {r : Rl} {xs : List Str} {l : List Stp} (h : ∀ s ∈ l, SetIn r xs s) : ∀ s ∈ l, SetIn r (xs ++ []) s := by rw [List.append_nil]; exact h
theorem fig_app {xs : List Str} {z : Str} : xs.map D.str ++ [.str z] = (xs ++ [z]).map .str := by simp
theorem b_st2 {a : List Stp} {x y : Stp} (h : a.length < 900) : binD .add (.tup (a.map stD)) (.tup [stD x, stD y]) = some (.tup ((a ++ [x, y]).map stD)) := b_st (b := [x, y]) (by simp; omega)
theorem filt_self (k : List Str) : (k.filter fun z => decide (z ∈ k)) = k := List.filter_eq_self.mpr fun z hz => decide_eq_true hz
theorem SetIn.take {r : Rl} {xs : List Str} {l : List Stp} (h : ∀ s ∈ l, SetIn r xs s) (n : Nat) : ∀ s ∈ l.take n, SetIn r xs s := fun s q => h s (List.mem_of_mem_take q)
theorem SetIn.drop {r : Rl} {xs : List Str} {l : List Stp} (h : ∀ s ∈ l, SetIn r xs s) (n : Nat) : ∀ s ∈ l.drop n, SetIn r xs s := fun s q => h s (List.mem_of_mem_drop q)
theorem SetIn.up {r : Rl} {xs : List Str} {l : List Stp} (h : ∀ s ∈ l, SetIn r xs s) (k : List Str) : ∀ s ∈ l, SetIn r (xs ++ k) s := fun s q => (h s q).mono fun z hz => List.mem_append_left _ hz
theorem working_ok (wt : WT t) (ht : t "_law_working" = some d_law_working) (n : Nat) {rest st : S} (dk : Deck rest st) {r : Rl} (hr : RlOk r) {xs : List Str} (hx : xs ≠ []) (hxl : xs.length ≤ 900) {z0 z1 : Str} (hz : z1 ≠ z0) :
    W (callN C t (n + 5) "_law_working" [.obj 0, rlD r, .lst (xs.map .str), .lst [.str z0, .str z1]] st) fun d s => ∃ (l : List Stp) (more : S), d = .tup (l.map stD) ∧ WkOk r xs [z0, z1] l ∧ Deck (rest ++ more) s := by
  refine W_run ht rfl ?_
  simp only [d_law_working]
  walk_at "pv"
  obtain ⟨kd, st0, h0, a0, b0, dk0⟩ := take_ok (C := C) wt.take (n + 3) (l := 5) (by decide) (by decide) dk
  rw [h0]
  walk_at "pv"
  have dk1 := dk0.push (o := .lst (xs.map .str))
  rw [dk0.len]
  generalize st0 ++ [O.lst (xs.map .str)] = st1 at dk1
  clear h0 dk dk0
  obtain ⟨c0, st2, h1, a1, b1, dk2⟩ := take_ok (C := C) wt.take (n + 3) (l := 2) (by decide) (by decide) dk1
  rw [h1]
  walk_at "pv"
  obtain ⟨_, st3, h2, l0, rfl, n0, s0, dk3⟩ := lplain_ok (C := C) wt.take wt.frac wt.mant wt.setting wt.plain n dk2 hr figs_last hx (by omega) (m := 1 + c0) (by omega) (by omega)
  rw [h2]
  walk_at "pv"
  clear h1 h2 dk1 dk2
  have hc : kd = 0 ∨ kd = 1 ∨ kd = 2 ∨ kd = 3 ∨ kd = 4 := by omega
  rcases hc with rfl | rfl | rfl | rfl | rfl
  · walk_at "pv"
    obtain ⟨sc, st4, h3, i3, dk4⟩ := read_ok (C := C) wt.take wt.read (n + 2) dk3 hr (z := z1)
    rw [h3]
    walk_at "pv"
    rw [b_st1 (by omega)]
    walk_at "pv"
    have z := sizes_sets s0
    exact B.rt ⟨_, _, rfl, wk_fin (Scp.sets (SetIn.nil s0)) (by simp) i3 (by omega) (by omega), dk4⟩
  · walk_at "pv"
    obtain ⟨sc, st4, h3, i3, dk4⟩ := read_ok (C := C) wt.take wt.read (n + 2) dk3 hr (z := z0)
    rw [h3]
    walk_at "pv"
    rw [b_st1 (by omega)]
    walk_at "pv"
    rw [dk4.at]
    walk_at "pv"
    rw [dk4.at]
    walk_at "pv"
    rw [if_pos (by rw [List.length_map]; omega), fig_app]
    have dk5 := dk4.put (o' := .lst ((xs ++ [z0]).map .str))
    generalize st4.set (rest.length + 1) (O.lst ((xs ++ [z0]).map .str)) = st5 at dk5
    walk_at "pv"
    obtain ⟨c1, st6, h4, a4, b4, dk6⟩ := take_ok (C := C) wt.take (n + 3) (l := 2) (by decide) (by decide) dk5
    rw [h4]
    walk_at "pv"
    obtain ⟨_, st7, h5, l1, rfl, n1, s1, dk7⟩ := lplain_ok (C := C) wt.take wt.frac wt.mant wt.setting wt.plain n dk6 hr figs_last (by simp) (by simp; omega) (m := 1 + c1) (by omega) (by omega)
    rw [h5]
    walk_at "pv"
    rw [b_st (by simp; omega)]
    walk_at "pv"
    obtain ⟨sc2, st8, h6, i6, dk8⟩ := read_ok (C := C) wt.take wt.read (n + 2) dk7 hr (z := z1)
    rw [h6]
    walk_at "pv"
    rw [b_st1 (by simp; omega)]
    walk_at "pv"
    have y0 := sizes_sets s0
    have y1 := sizes_sets s1
    refine B.rt ⟨_, _, rfl, wk_fin (k := [z0]) (Scp.app (Scp.app (Scp.sets (SetIn.nil s0)) (.read i3 (by simp) (by simp) .nil)) (Scp.sets s1)) (by simpa using hz) i6 ?_ ?_, dk8⟩
    · simp only [sizes_app, sizes, Stp.size]; omega
    · simp only [depths_app, depths, Stp.depth]; omega
  · walk_at "pv"
    obtain ⟨c1, st4, h3, a3, b3, dk4⟩ := take_ok (C := C) wt.take (n + 3) (l := 2) (by decide) (by decide) dk3
    rw [h3]
    walk_at "pv"
    have y0 := sizes_sets s0
    refine B_cut (fun env s => ∃ (l : List Stp) (k : List Str), env = [.val (.obj 0), .val (rlD r), .val (.lst (xs.map .str)), .val (.lst [.str z0, .str z1]), .val (.int 2), .val (.obj (rest.length + 1)), .val (.tup (l.map stD)), .no, .no, .no, .no, .no] ∧
      Scp r xs [z0, z1] [] l k ∧ (k = [] ∨ k = [z0]) ∧ sizes l ≤ 2 ∧ l.length ≤ 2 ∧ depths l = 0 ∧ Deck (rest ++ [.lst ((xs ++ k).map .str)]) s) ?_ ?_
    · split
      · rw [sl_t1]
        walk_at "pv"
        obtain ⟨sc, st5, h4, i4, dk5⟩ := read_ok (C := C) wt.take wt.read (n + 2) dk4 hr (z := z0)
        rw [h4]
        walk_at "pv"
        rw [b_st1 (by rw [List.length_take]; omega)]
        walk_at "pv"
        rw [dk5.at]
        walk_at "pv"
        rw [dk5.at]
        walk_at "pv"
        rw [if_pos (by rw [List.length_map]; omega), fig_app]
        have y1 := sizes_sets (SetIn.take s0 1)
        rw [List.length_take] at y1
        refine B.nx ⟨_, [z0], rfl, Scp.app (Scp.sets (SetIn.nil (SetIn.take s0 1))) (.read i4 (by simp) (by simp) .nil), .inr rfl, ?_, ?_, ?_, dk5.put⟩
        · simp only [sizes_app, sizes, Stp.size]; omega
        · simp only [List.length_append, List.length_take, List.length_singleton]; omega
        · simp only [depths_app, depths, Stp.depth]; omega
      · exact B.nx ⟨l0, [], rfl, Scp.sets (SetIn.nil s0), .inl rfl, by omega, by omega, by omega, by simpa using dk4⟩
    · rintro env st5 ⟨l, k, rfl, hS, hk, q1, q2, q3, dk5⟩
      have kz : z1 ∉ k := by rcases hk with rfl | rfl <;> simp [hz]
      have kl : k.length ≤ 1 := by rcases hk with rfl | rfl <;> simp
      have fx : xs ++ k ≠ [] := by intro z; exact hx (List.append_eq_nil_iff.mp z).1
      have fl : (xs ++ k).length ≤ 1000 := by rw [List.length_append]; omega
      walk_at "pv"
      obtain ⟨c2, st6, h5, a5, b5, dk6⟩ := take_ok (C := C) wt.take (n + 3) (l := 2) (by decide) (by decide) dk5
      rw [h5]
      walk_at "pv"
      obtain ⟨_, st7, h6, l1, rfl, n1, s1, dk7⟩ := lplain_ok (C := C) wt.take wt.frac wt.mant wt.setting wt.plain n dk6 hr figs_last fx fl (m := 1 + c2) (by omega) (by omega)
      rw [h6]
      walk_at "pv"
      obtain ⟨c3, st8, h7, a7, b7, dk8⟩ := take_ok (C := C) wt.take (n + 3) (l := 2) (by decide) (by decide) dk7
      rw [h7]
      walk_at "pv"
      obtain ⟨_, st9, h8, l2, rfl, n2, s2, dk9⟩ := lplain_ok (C := C) wt.take wt.frac wt.mant wt.setting wt.plain n dk8 hr figs_last fx fl (m := c3) (by omega) (by omega)
      rw [h8]
      walk_at "pv"
      rw [tr_eq, b_st1 (by omega)]
      walk_at "pv"
      obtain ⟨c4, sta, h9, a9, b9, dka⟩ := take_ok (C := C) wt.take (n + 3) (l := 2) (by decide) (by decide) dk9
      rw [h9]
      walk_at "pv"
      obtain ⟨_, stb, h10, l3, rfl, n3, s3, dkb⟩ := lplain_ok (C := C) wt.take wt.frac wt.mant wt.setting wt.plain n dka hr figs_last fx fl (m := c4) (by omega) (by omega)
      rw [h10]
      walk_at "pv"
      rw [b_st (by simp; omega)]
      walk_at "pv"
      obtain ⟨sc2, stc, h11, i11, dkc⟩ := read_ok (C := C) wt.take wt.read (n + 2) dkb hr (z := z1)
      rw [h11]
      walk_at "pv"
      rw [b_st1 (by simp; omega)]
      walk_at "pv"
      have w1 := sizes_sets s1
      have w2 := sizes_sets s2
      have w3 := sizes_sets s3
      refine B.rt ⟨_, _, rfl, wk_fin (k := k) (Scp.app (Scp.app hS (.tr (by intro z; subst z; simp at n1; omega) (Scp.sets s1) (Scp.sets s2) (by rw [filt_self]; exact .nil))) (Scp.sets s3)) kz i11 ?_ ?_, dkc⟩
      · simp only [sizes_app, sizes, Stp.size]; omega
      · simp only [depths_app, depths, Stp.depth]; omega
  · walk_at "pv"
    obtain ⟨c2, st6, h5, a5, b5, dk6⟩ := take_ok (C := C) wt.take (n + 3) (l := 2) (by decide) (by decide) dk3
    rw [h5]
    walk_at "pv"
    obtain ⟨_, st7, h6, l1, rfl, n1, s1, dk7⟩ := lplain_ok (C := C) wt.take wt.frac wt.mant wt.setting wt.plain n dk6 hr figs_last hx (by omega) (m := 1 + c2) (by omega) (by omega)
    rw [h6]
    walk_at "pv"
    obtain ⟨c3, st8, h7, a7, b7, dk8⟩ := take_ok (C := C) wt.take (n + 3) (l := 2) (by decide) (by decide) dk7
    rw [h7]
    walk_at "pv"
    obtain ⟨_, st9, h8, l2, rfl, n2, s2, dk9⟩ := lplain_ok (C := C) wt.take wt.frac wt.mant wt.setting wt.plain n dk8 hr figs_last hx (by omega) (m := c3) (by omega) (by omega)
    rw [h8]
    walk_at "pv"
    rw [List.length_map]
    obtain ⟨c4, sta, h9, a9, b9, dka⟩ := take_ok (C := C) wt.take (n + 3) (l := (l1.length : Int) + 1) (by omega) (pow_up (j := 64) (by omega) (by decide)) dk9
    rw [h9]
    walk_at "pv"
    rw [sl_t1]
    walk_at "pv"
    rw [sl_to a9]
    walk_at "pv"
    obtain ⟨sc, stb, h10, i10, dkb⟩ := read_ok (C := C) wt.take wt.read (n + 2) dka hr (z := z0)
    rw [h10]
    walk_at "pv"
    rw [b_st1 (by rw [List.length_take]; omega)]
    walk_at "pv"
    rw [sl_fr a9]
    walk_at "pv"
    rw [b_st (by simp; omega)]
    walk_at "pv"
    have y0 := sizes_sets (SetIn.take s0 1)
    have y1 := sizes_sets (SetIn.take s1 c4.toNat)
    have y2 := sizes_sets (SetIn.drop s1 c4.toNat)
    have y3 := sizes_sets s2
    rw [List.length_take] at y0 y1
    rw [List.length_drop] at y2
    have first : Scp r xs [z0, z1] [] (l1.take c4.toNat ++ [Stp.read sc z0] ++ l1.drop c4.toNat) [z0] :=
      Scp.app (Scp.app (Scp.sets (SetIn.nil (SetIn.take s1 _))) (.read i10 (by simp) (by simp) .nil)) (Scp.sets (SetIn.up (SetIn.drop s1 _) [z0]))
    have fsz : sizes (l1.take c4.toNat ++ [Stp.read sc z0] ++ l1.drop c4.toNat) ≤ 3 := by simp only [sizes_app, sizes, Stp.size]; omega
    have fdp : depths (l1.take c4.toNat ++ [Stp.read sc z0] ++ l1.drop c4.toNat) = 0 := by simp only [depths_app, depths, Stp.depth]; omega
    have fln : (l1.take c4.toNat ++ [Stp.read sc z0] ++ l1.drop c4.toNat).length ≤ 10 := by simp only [List.length_append, List.length_take, List.length_drop, List.length_singleton]; omega
    have fne : l1.take c4.toNat ++ [Stp.read sc z0] ++ l1.drop c4.toNat ≠ [] := by simp
    generalize l1.take c4.toNat ++ [Stp.read sc z0] ++ l1.drop c4.toNat = ff at first fsz fdp fln fne
    obtain ⟨c5, stc, h11, a11, b11, dkc⟩ := take_ok (C := C) wt.take (n + 3) (l := 2) (by decide) (by decide) dkb
    rw [h11]
    walk_at "pv"
    rw [sq_assoc, sq_assoc]
    refine B_cut (fun env s => ∃ (l : List Stp) (s8 s7 : Sl), env = [.val (.obj 0), .val (rlD r), .val (.lst (xs.map .str)), .val (.lst [.str z0, .str z1]), .val (.int 3), .val (.obj (rest.length + 1)), .val (.tup ((l0.take 1).map stD)), s7, s8, .val (.tup (l.map stD)), .val (.tup (l2.map stD)), .val (.int c4)] ∧
      Scp r xs [z0, z1] [] l [z0] ∧ sizes l ≤ 4 ∧ depths l = 0 ∧ l.length ≤ 20 ∧ l ≠ [] ∧ Deck (rest ++ [.lst (xs.map .str)]) s) ?_ ?_
    · split
      · rw [rs_obj dkc.at]
        have e1 : binD .add (.lst (xs.map .str)) (.lst [.str z0]) = some (.lst ((xs ++ [z0]).map .str)) := by
          rw [← fig_app]
          exact b_addL (by simp [sizeLine_eq]; omega)
        rw [e1]
        walk_at "pv"
        obtain ⟨_, std, h12, l3, rfl, n3, s3, dkd⟩ := lplain_ok (C := C) wt.take wt.frac wt.mant wt.setting wt.plain n dkc hr (xs := xs ++ [z0]) (.inl rfl) (by simp) (by simp; omega) (m := 1) (by omega) (by omega)
        rw [h12]
        walk_at "pv"
        rw [b_st (by simp at n3; omega)]
        walk_at "pv"
        have y4 := sizes_sets s3
        have n3' : l3.length = 1 := n3
        refine B.nx ⟨_, _, _, rfl, Scp.app first (Scp.sets s3), ?_, ?_, ?_, ?_, dkd⟩
        · simp only [sizes_app]; omega
        · simp only [depths_app]; omega
        · rw [List.length_append]; omega
        · intro z; exact fne (List.append_eq_nil_iff.mp z).1
      · exact B.nx ⟨ff, _, _, rfl, first, by omega, by omega, by omega, fne, dkc⟩
    · rintro env st5 ⟨l, s8, s7, rfl, hS, q1, q2, q3, q4, dk5⟩
      walk_at "pv"
      obtain ⟨sc1, st6, h13, i13, dk6⟩ := read_ok (C := C) wt.take wt.read (n + 2) dk5 hr (z := z0)
      rw [h13]
      walk_at "pv"
      rw [b_st1 (by omega)]
      walk_at "pv"
      rw [dk6.at]
      walk_at "pv"
      rw [dk6.at]
      walk_at "pv"
      rw [if_pos (by rw [List.length_map]; omega), fig_app]
      have dk7 := dk6.put (o' := .lst ((xs ++ [z0]).map .str))
      generalize st6.set (rest.length + 1) (O.lst ((xs ++ [z0]).map .str)) = st7 at dk7
      walk_at "pv"
      rw [tr_eq, b_st1 (by rw [List.length_take]; omega)]
      walk_at "pv"
      obtain ⟨c6, st8, h14, a14, b14, dk8⟩ := take_ok (C := C) wt.take (n + 3) (l := 2) (by decide) (by decide) dk7
      rw [h14]
      walk_at "pv"
      obtain ⟨_, stb, h15, l4, rfl, n4, s4, dkb⟩ := lplain_ok (C := C) wt.take wt.frac wt.mant wt.setting wt.plain n dk8 hr figs_last (by simp) (by simp; omega) (m := c6) (by omega) (by omega)
      rw [h15]
      walk_at "pv"
      rw [b_st (by simp; omega)]
      walk_at "pv"
      obtain ⟨sc2, stc, h16, i16, dkc⟩ := read_ok (C := C) wt.take wt.read (n + 2) dkb hr (z := z1)
      rw [h16]
      walk_at "pv"
      rw [b_st1 (by simp; omega)]
      walk_at "pv"
      have w4 := sizes_sets s4
      refine B.rt ⟨_, _, rfl, wk_fin (k := [z0]) (Scp.app (Scp.app (Scp.sets (SetIn.nil (SetIn.take s0 1))) (.tr q4 hS (Scp.app (Scp.sets (SetIn.nil s2)) (.read i13 (by simp) (by simp) .nil)) (by rw [List.nil_append, filt_self]; exact .nil))) (Scp.sets s4)) (by simpa using hz) i16 ?_ ?_, dkc⟩
      · simp only [sizes_app, sizes, Stp.size]; omega
      · simp only [depths_app, depths, Stp.depth]; omega
  · walk_at "pv"
    obtain ⟨c1, st4, h3, a3, b3, dk4⟩ := take_ok (C := C) wt.take (n + 3) (l := 2) (by decide) (by decide) dk3
    rw [h3]
    walk_at "pv"
    have y0 := sizes_sets s0
    refine B_cut (fun env s => ∃ (l : List Stp) (k : List Str), env = [.val (.obj 0), .val (rlD r), .val (.lst (xs.map .str)), .val (.lst [.str z0, .str z1]), .val (.int 4), .val (.obj (rest.length + 1)), .val (.tup (l.map stD)), .no, .no, .no, .no, .no] ∧
      Scp r xs [z0, z1] [] l k ∧ (k = [] ∨ k = [z0]) ∧ sizes l ≤ 2 ∧ l.length ≤ 2 ∧ depths l = 0 ∧ Deck (rest ++ [.lst ((xs ++ k).map .str)]) s) ?_ ?_
    · split
      · rw [sl_t1]
        walk_at "pv"
        obtain ⟨sc, st5, h4, i4, dk5⟩ := read_ok (C := C) wt.take wt.read (n + 2) dk4 hr (z := z0)
        rw [h4]
        walk_at "pv"
        rw [b_st1 (by rw [List.length_take]; omega)]
        walk_at "pv"
        rw [dk5.at]
        walk_at "pv"
        rw [dk5.at]
        walk_at "pv"
        rw [if_pos (by rw [List.length_map]; omega), fig_app]
        have y1 := sizes_sets (SetIn.take s0 1)
        rw [List.length_take] at y1
        refine B.nx ⟨_, [z0], rfl, Scp.app (Scp.sets (SetIn.nil (SetIn.take s0 1))) (.read i4 (by simp) (by simp) .nil), .inr rfl, ?_, ?_, ?_, dk5.put⟩
        · simp only [sizes_app, sizes, Stp.size]; omega
        · simp only [List.length_append, List.length_take, List.length_singleton]; omega
        · simp only [depths_app, depths, Stp.depth]; omega
      · exact B.nx ⟨l0, [], rfl, Scp.sets (SetIn.nil s0), .inl rfl, by omega, by omega, by omega, by simpa using dk4⟩
    · rintro env st5 ⟨l, k, rfl, hS, hk, q1, q2, q3, dk5⟩
      have kz : z1 ∉ k := by rcases hk with rfl | rfl <;> simp [hz]
      have kl : k.length ≤ 1 := by rcases hk with rfl | rfl <;> simp
      have fx : xs ++ k ≠ [] := by intro z; exact hx (List.append_eq_nil_iff.mp z).1
      have fl : (xs ++ k).length ≤ 1000 := by rw [List.length_append]; omega
      walk_at "pv"
      obtain ⟨_, st6, h5, l1, rfl, n1, s1, dk6⟩ := lplain_ok (C := C) wt.take wt.frac wt.mant wt.setting wt.plain n dk5 hr figs_last fx fl (m := 3) (by omega) (by omega)
      rw [h5]
      walk_at "pv"
      obtain ⟨c3, st8, h7, a7, b7, dk8⟩ := take_ok (C := C) wt.take (n + 3) (l := 2) (by decide) (by decide) dk6
      rw [h7]
      walk_at "pv"
      obtain ⟨_, st9, h8, l2, rfl, n2, s2, dk9⟩ := lplain_ok (C := C) wt.take wt.frac wt.mant wt.setting wt.plain n dk8 hr figs_last fx fl (m := c3) (by omega) (by omega)
      rw [h8]
      have n1' : l1.length = 3 := n1
      walk_at "pv"
      rw [sl_t1]
      walk_at "pv"
      rw [sl_12 n1']
      walk_at "pv"
      rw [tr_eq, b_st1 (by rw [List.length_take]; omega)]
      walk_at "pv"
      rw [sl_f2]
      walk_at "pv"
      rw [b_st (by simp; omega)]
      walk_at "pv"
      obtain ⟨c4, sta, h9, a9, b9, dka⟩ := take_ok (C := C) wt.take (n + 3) (l := 3) (by decide) (by decide) dk9
      rw [h9]
      walk_at "pv"
      have w1 := sizes_sets (SetIn.take s1 1)
      have w2 := sizes_sets (SetIn.take (SetIn.drop s1 1) 1)
      have w3 := sizes_sets (SetIn.drop s1 2)
      have w4 := sizes_sets s2
      simp only [List.length_take, List.length_drop] at w1 w2 w3
      have inner : Scp r xs [z0, z1] k (l1.take 1 ++ [.tr ((l1.drop 1).take 1) l2] ++ l1.drop 2) k :=
        Scp.app (Scp.app (Scp.sets (SetIn.take s1 1)) (.tr (by intro z; have := congrArg List.length z; simp at this; omega) (Scp.sets (SetIn.take (SetIn.drop s1 1) 1)) (Scp.sets s2) (by rw [filt_self]; exact .nil))) (Scp.sets (SetIn.drop s1 2))
      have isz : sizes (l1.take 1 ++ [.tr ((l1.drop 1).take 1) l2] ++ l1.drop 2) ≤ 5 := by simp only [sizes_app, sizes, Stp.size]; omega
      have idp : depths (l1.take 1 ++ [.tr ((l1.drop 1).take 1) l2] ++ l1.drop 2) ≤ 1 := by simp only [depths_app, depths, Stp.depth]; omega
      have ine : l1.take 1 ++ [.tr ((l1.drop 1).take 1) l2] ++ l1.drop 2 ≠ [] := by simp
      generalize l1.take 1 ++ [.tr ((l1.drop 1).take 1) l2] ++ l1.drop 2 = ii at inner isz idp ine
      have lt2 : l.take 2 = l := List.take_of_length_le q2
      split
      · rw [tr_eq]
        walk_at "pv"
        rw [sl_t2, lt2]
        walk_at "pv"
        obtain ⟨sc2, stc, h11, i11, dkc⟩ := read_ok (C := C) wt.take wt.read (n + 2) dka hr (z := z1)
        rw [h11]
        walk_at "pv"
        rw [b_st2 (by omega)]
        walk_at "pv"
        refine B.rt ⟨(l ++ [.tr ii l2]) ++ [.read sc2 z1], _, by simp, wk_fin (k := k) (Scp.app hS (.tr ine inner (Scp.sets s2) (by rw [filt_self]; exact .nil))) kz i11 ?_ ?_, dkc⟩
        · simp only [sizes_app, sizes, Stp.size]; omega
        · simp only [depths_app, depths, Stp.depth]; omega
      · rw [sl_t1]
        walk_at "pv"
        rw [tr_eq, sl_t2, lt2]
        walk_at "pv"
        obtain ⟨sc2, stc, h11, i11, dkc⟩ := read_ok (C := C) wt.take wt.read (n + 2) dka hr (z := z1)
        rw [h11]
        walk_at "pv"
        rw [b_st2 (by omega)]
        walk_at "pv"
        refine B.rt ⟨(l ++ [.tr (l1.take 1) ii]) ++ [.read sc2 z1], _, by simp, wk_fin (k := k) (Scp.app hS (.tr (by intro z; have := congrArg List.length z; rw [List.length_take, List.length_nil] at this; omega) (Scp.sets (SetIn.take s1 1)) inner (by rw [filt_self]; exact .nil))) kz i11 ?_ ?_, dkc⟩
        · simp only [sizes_app, sizes, Stp.size]; omega
        · simp only [depths_app, depths, Stp.depth]; omega
end
end PV

set_option Elab.async false
set_option linter.all false
set_option maxRecDepth 100000
set_option maxHeartbeats 1000000
set_option exponentiation.threshold 30000
set_option pp.maxSteps 600
set_option pp.deepTerms false
set_option pp.deepTerms.threshold 6
namespace PV
open PySem PySem.Spec PyProof.Rows L2
local macro_rules | `(tactic| walk_at "pv") => `(tactic| simp only [e_var, e_int, e_str, e_bl, e_non, e_glob, e_tup, e_lst, e_lstM, e_dic0, e_bin, e_neg, e_not, e_and, e_or, e_cmp, e_chain, e_isN, e_notN, e_ifx, e_sub, e_slice, e_call, e_bi, e_isi, e_comp, es_nil, es_cons, o_no, o_some, t_val, t_and, t_or, t_not, t_cmp, t_chain, t_isN, t_notN, kCons_ok, kCons_exc, kCons1_ok, kCons1_exc, kTup_ok, kTup_exc, kLst_ok, kLst_exc, kLstM_ok, kCall_ok, kCall_exc, kBin_ok, kBin_exc, kBin1_ok, kBin1_exc, kNeg_ok, kNot_ok, kNot_exc, kAnd_ok, kAnd_exc, kOr_ok, kOr_exc, kCmp_ok, kCmp_exc, kCmp1_ok, kCmp1_exc, kCh_ok, kCh1_ok, kCh2_some, kIf_ok, kIf_exc, kSub_ok, kSub_exc, kSub1_ok, kSub1_exc, kSl_ok, kSl1_ok, kSl2_ok, kBi_ok, kBi_exc, kIsi_ok, kTru_bl, kTru_exc, kTAnd_ok, kTAnd_exc, kTOr_ok, kTOr_exc, kTNot_ok, kTNot_exc, kTB_ok, kTB_exc, kInt_ok, kIsN_non, kNotN_non, ofO_some, ss_nil, ss_cons, s_expr, s_set, s_par, s_asg, s_putL, s_ownNew, s_ownApp, s_freeze, s_ret, s_retN, s_ite, s_whl, s_forN, s_forR, s_brk, s_cont, s_pass, s_raise, s_try, sq_nx, sq_rt, sq_bk, sq_ct, sq_exc, kExpr_ok, kExpr_exc, kSet_ok, kSet_exc, kPar_ok, kPar_exc, kPar1_ok, kPar1_exc, kAsg_ok, kAsg_exc, kPut_ok, kPut1_ok, kPut2_ok, kOwn_ok, kApp_ok, kRet_ok, kRet_exc, kSIf_ok, kSIf_exc, kFor_tup, kFor_lst, kRun_nx, kRun_rt, kRun_exc, kTry_ok, kTry_exc, nox_ok, eq_ii, eq_ss, si0, si1, si2, si3, si4, si5, si6, si7, si8, si9, si10, si11, si12, si13, si14, si15, b_add, b_sub, c_lt, c_le, c_gt, c_ge, eq_ii, eq_ss, c_eq, c_ne, k_abs, k_int, k_intB, k_lenT, k_lenL, k_lenS, x_tup, x_lst, gi0, si0, gi1, si1, gi2, si2, gi3, si3, gi4, si4, gi5, si5, gi6, si6, gi7, si7, gi8, si8, gi9, si9, gi10, si10, gi11, si11, gi12, si12, gi13, si13, gi14, si14, gi15, si15, ri0, ri1, ri2, ri3, ri4, ri5, ri6, ri7, ri8, ri9, ri10, ri11, ai0, ai1, ai2, ai3, ai4, ai5, ai6, ai7, ai8, ai9, List.map_cons, List.map_nil, List.cons_append, List.nil_append, List.append_nil, Option.map_some, R.bind_ok, Bool.not_true, Bool.not_false, if_true, if_false, Bool.false_eq_true, decide_true, decide_false, Nat.reduceSub, bindT, bindTs, List.length_cons, List.length_nil, sizeLine_eq, Nat.reduceAdd, Nat.reduceLeDiff, Nat.zero_add, decide_eq_true_eq, x_obj0, put0, put1, put2, ic0, ic1, ic2, ic3, ic4, ic5, ic6, ic7, ic8, ic9, ic10, ic11, ic12, ic13, ic14, ic15, ic16, ic17, ic18, ic19, ic20, ic21, ic22, ic23, Int.reduceEq, Int.reduceLT, Int.reduceLE, Int.reduceNeg, vB_var, vB_int, vB_str, vB_bl, vB_non, vB_glob, vB_tup, vB_lst, vB_dic0, vB_bin, vB_neg, vB_not, vB_and, vB_or, vB_cmp, vB_chain, vB_isN, vB_notN, vB_ifx, vB_sub, vB_slice, vB_call, vB_bi, vB_isi, vB_comp, vB_fmt, vB_fstr, vB_join, vB_own, rs_int, rs_str, rs_bl, rs_non, rs_tup, rs_lst, rs_dic, rs_scr, kFmt_ok, kJoin_ok, kJ_ok, kListM_ok, e_listM, e_fmt, e_fstr, e_join, j_nil, j_cons, kCmpC_ok, kCmpC_exc, s_ownAdd, s_appL, kOAdd_ok, kOAdd1_ok, addF_ok, sw_line_slide, sw_line_read, sw_line_try, sw_line_left, sw_line_right, sw_slide_line, sw_slide_read, sw_slide_try, sw_slide_left, sw_slide_right, sw_read_line, sw_read_slide, sw_read_try, sw_read_left, sw_read_right, sw_try_line, sw_try_slide, sw_try_read, sw_try_left, sw_try_right, sw_left_line, sw_left_slide, sw_left_read, sw_left_try, sw_left_right, sw_right_line, sw_right_slide, sw_right_read, sw_right_try, sw_right_left, it_lst, it_tup, kAppL_obj, kAppL1_ok, appF_ok, e_compI, cstep_ap, cst1_some, kCC_ok, kSome_ok, c_no, c_some, kCompI_ok, kCompE_ok, e_sset, e_lset, e_allL, i_seq, i_rng, i_rng2, i_enum, i_zip, kSeq_tup, kSeq_lst, kSeq_str, kSeq_exc, kRng2_ok, kEnum_lst, kZip_ok, kZip1_lst, vB_compI, vB_sset, vB_lset, vB_allL, rs_cdic, s_forI, s_ownExt, kForI_ok, kForI_exc, lstep_ap, lst1_some, kExt_lst, c_in, c_nin, s_aug, kAug_ok, au_add, au_sub, is_non_int, is_non_bool, is_non_str, is_non_tuple, is_non_list, is_non_dict, is_bl_int, is_bl_bool, is_bl_str, is_bl_tuple, is_bl_list, is_bl_dict, is_int_int, is_int_bool, is_int_str, is_int_tuple, is_int_list, is_int_dict, is_str_int, is_str_bool, is_str_str, is_str_tuple, is_str_list, is_str_dict, is_tup_int, is_tup_bool, is_tup_str, is_tup_tuple, is_tup_list, is_tup_dict, is_lst_int, is_lst_bool, is_lst_str, is_lst_tuple, is_lst_list, is_lst_dict, is_dic_int, is_dic_bool, is_dic_str, is_dic_tuple, is_dic_list, is_dic_dict, e_fld, e_prop, e_mcall, kFld_ok, kPrp_ok, kPrp1_some, kMth_ok, kMth1_some, kMth2_ok, rnox_ok, vB_fld, vB_prop, vB_mcall, s_setF, kSetF_ok, setFF_self, putD_nil])
local macro_rules | `(tactic| walk_at "p") => `(tactic| try simp only [e_var, e_int, e_str, e_bl, e_non, e_glob, e_tup, e_lst, e_lstM, e_dic0, e_bin, e_neg, e_not, e_and, e_or, e_cmp, e_chain, e_isN, e_notN, e_ifx, e_sub, e_slice, e_call, e_bi, e_isi, e_comp, es_nil, es_cons, o_no, o_some, t_val, t_and, t_or, t_not, t_cmp, t_chain, t_isN, t_notN, kCons_ok, kCons_exc, kCons1_ok, kCons1_exc, kTup_ok, kTup_exc, kLst_ok, kLst_exc, kLstM_ok, kCall_ok, kCall_exc, kBin_ok, kBin_exc, kBin1_ok, kBin1_exc, kNeg_ok, kNot_ok, kNot_exc, kAnd_ok, kAnd_exc, kOr_ok, kOr_exc, kCmp_ok, kCmp_exc, kCmp1_ok, kCmp1_exc, kCh_ok, kCh1_ok, kCh2_some, kIf_ok, kIf_exc, kSub_ok, kSub_exc, kSub1_ok, kSub1_exc, kSl_ok, kSl1_ok, kSl2_ok, kBi_ok, kBi_exc, kIsi_ok, kTru_bl, kTru_exc, kTAnd_ok, kTAnd_exc, kTOr_ok, kTOr_exc, kTNot_ok, kTNot_exc, kTB_ok, kTB_exc, kInt_ok, kIsN_non, kNotN_non, ofO_some, ss_nil, ss_cons, s_expr, s_set, s_par, s_asg, s_putL, s_ownNew, s_ownApp, s_freeze, s_ret, s_retN, s_ite, s_whl, s_forN, s_forR, s_brk, s_cont, s_pass, s_raise, s_try, sq_nx, sq_rt, sq_bk, sq_ct, sq_exc, kExpr_ok, kExpr_exc, kSet_ok, kSet_exc, kPar_ok, kPar_exc, kPar1_ok, kPar1_exc, kAsg_ok, kAsg_exc, kPut_ok, kPut1_ok, kPut2_ok, kOwn_ok, kApp_ok, kRet_ok, kRet_exc, kSIf_ok, kSIf_exc, kFor_tup, kFor_lst, kRun_nx, kRun_rt, kRun_exc, kTry_ok, kTry_exc, nox_ok, eq_ii, eq_ss, si0, si1, si2, si3, si4, si5, si6, si7, si8, si9, si10, si11, si12, si13, si14, si15, b_add, b_sub, c_lt, c_le, c_gt, c_ge, eq_ii, eq_ss, c_eq, c_ne, k_abs, k_int, k_intB, k_lenT, k_lenL, k_lenS, x_tup, x_lst, gi0, si0, gi1, si1, gi2, si2, gi3, si3, gi4, si4, gi5, si5, gi6, si6, gi7, si7, gi8, si8, gi9, si9, gi10, si10, gi11, si11, gi12, si12, gi13, si13, gi14, si14, gi15, si15, ri0, ri1, ri2, ri3, ri4, ri5, ri6, ri7, ri8, ri9, ri10, ri11, ai0, ai1, ai2, ai3, ai4, ai5, ai6, ai7, ai8, ai9, List.map_cons, List.map_nil, List.cons_append, List.nil_append, List.append_nil, Option.map_some, R.bind_ok, Bool.not_true, Bool.not_false, if_true, if_false, Bool.false_eq_true, decide_true, decide_false, Nat.reduceSub, bindT, bindTs, List.length_cons, List.length_nil, sizeLine_eq, Nat.reduceAdd, Nat.reduceLeDiff, Nat.zero_add, decide_eq_true_eq, x_obj0, put0, put1, put2, ic0, ic1, ic2, ic3, ic4, ic5, ic6, ic7, ic8, ic9, ic10, ic11, ic12, ic13, ic14, ic15, ic16, ic17, ic18, ic19, ic20, ic21, ic22, ic23, Int.reduceEq, Int.reduceLT, Int.reduceLE, Int.reduceNeg, vB_var, vB_int, vB_str, vB_bl, vB_non, vB_glob, vB_tup, vB_lst, vB_dic0, vB_bin, vB_neg, vB_not, vB_and, vB_or, vB_cmp, vB_chain, vB_isN, vB_notN, vB_ifx, vB_sub, vB_slice, vB_call, vB_bi, vB_isi, vB_comp, vB_fmt, vB_fstr, vB_join, vB_own, rs_int, rs_str, rs_bl, rs_non, rs_tup, rs_lst, rs_dic, rs_scr, kFmt_ok, kJoin_ok, kJ_ok, kListM_ok, e_listM, e_fmt, e_fstr, e_join, j_nil, j_cons, kCmpC_ok, kCmpC_exc, s_ownAdd, s_appL, kOAdd_ok, kOAdd1_ok, addF_ok, sw_line_slide, sw_line_read, sw_line_try, sw_line_left, sw_line_right, sw_slide_line, sw_slide_read, sw_slide_try, sw_slide_left, sw_slide_right, sw_read_line, sw_read_slide, sw_read_try, sw_read_left, sw_read_right, sw_try_line, sw_try_slide, sw_try_read, sw_try_left, sw_try_right, sw_left_line, sw_left_slide, sw_left_read, sw_left_try, sw_left_right, sw_right_line, sw_right_slide, sw_right_read, sw_right_try, sw_right_left, it_lst, it_tup, kAppL_obj, kAppL1_ok, appF_ok, e_compI, cstep_ap, cst1_some, kCC_ok, kSome_ok, c_no, c_some, kCompI_ok, kCompE_ok, e_sset, e_lset, e_allL, i_seq, i_rng, i_rng2, i_enum, i_zip, kSeq_tup, kSeq_lst, kSeq_str, kSeq_exc, kRng2_ok, kEnum_lst, kZip_ok, kZip1_lst, vB_compI, vB_sset, vB_lset, vB_allL, rs_cdic, s_forI, s_ownExt, kForI_ok, kForI_exc, lstep_ap, lst1_some, kExt_lst, c_in, c_nin, s_aug, kAug_ok, au_add, au_sub, is_non_int, is_non_bool, is_non_str, is_non_tuple, is_non_list, is_non_dict, is_bl_int, is_bl_bool, is_bl_str, is_bl_tuple, is_bl_list, is_bl_dict, is_int_int, is_int_bool, is_int_str, is_int_tuple, is_int_list, is_int_dict, is_str_int, is_str_bool, is_str_str, is_str_tuple, is_str_list, is_str_dict, is_tup_int, is_tup_bool, is_tup_str, is_tup_tuple, is_tup_list, is_tup_dict, is_lst_int, is_lst_bool, is_lst_str, is_lst_tuple, is_lst_list, is_lst_dict, is_dic_int, is_dic_bool, is_dic_str, is_dic_tuple, is_dic_list, is_dic_dict, e_fld, e_prop, e_mcall, kFld_ok, kPrp_ok, kPrp1_some, kMth_ok, kMth1_some, kMth2_ok, rnox_ok, vB_fld, vB_prop, vB_mcall, s_setF, kSetF_ok, setFF_self, putD_nil])
local macro_rules | `(tactic| walk_at "pvh") => `(tactic| simp only [e_var, e_int, e_str, e_bl, e_non, e_glob, e_tup, e_lst, e_lstM, e_dic0, e_bin, e_neg, e_not, e_and, e_or, e_cmp, e_chain, e_isN, e_notN, e_ifx, e_sub, e_slice, e_call, e_bi, e_isi, e_comp, es_nil, es_cons, o_no, o_some, t_val, t_and, t_or, t_not, t_cmp, t_chain, t_isN, t_notN, kCons_ok, kCons_exc, kCons1_ok, kCons1_exc, kTup_ok, kTup_exc, kLst_ok, kLst_exc, kLstM_ok, kCall_ok, kCall_exc, kBin_ok, kBin_exc, kBin1_ok, kBin1_exc, kNeg_ok, kNot_ok, kNot_exc, kAnd_ok, kAnd_exc, kOr_ok, kOr_exc, kCmp_ok, kCmp_exc, kCmp1_ok, kCmp1_exc, kCh_ok, kCh1_ok, kCh2_some, kIf_ok, kIf_exc, kSub_ok, kSub_exc, kSub1_ok, kSub1_exc, kSl_ok, kSl1_ok, kSl2_ok, kBi_ok, kBi_exc, kIsi_ok, kTru_bl, kTru_exc, kTAnd_ok, kTAnd_exc, kTOr_ok, kTOr_exc, kTNot_ok, kTNot_exc, kTB_ok, kTB_exc, kInt_ok, kIsN_non, kNotN_non, ofO_some, ss_nil, ss_cons, s_expr, s_set, s_par, s_asg, s_putL, s_ownNew, s_ownApp, s_freeze, s_ret, s_retN, s_ite, s_whl, s_forN, s_forR, s_brk, s_cont, s_pass, s_raise, s_try, sq_nx, sq_rt, sq_bk, sq_ct, sq_exc, kExpr_ok, kExpr_exc, kSet_ok, kSet_exc, kPar_ok, kPar_exc, kPar1_ok, kPar1_exc, kAsg_ok, kAsg_exc, kPut_ok, kPut1_ok, kPut2_ok, kOwn_ok, kApp_ok, kRet_ok, kRet_exc, kSIf_ok, kSIf_exc, kFor_tup, kFor_lst, kRun_nx, kRun_rt, kRun_exc, kTry_ok, kTry_exc, nox_ok, eq_ii, eq_ss, si0, si1, si2, si3, si4, si5, si6, si7, si8, si9, si10, si11, si12, si13, si14, si15, b_add, b_sub, c_lt, c_le, c_gt, c_ge, eq_ii, eq_ss, c_eq, c_ne, k_abs, k_int, k_intB, k_lenT, k_lenL, k_lenS, x_tup, x_lst, gi0, si0, gi1, si1, gi2, si2, gi3, si3, gi4, si4, gi5, si5, gi6, si6, gi7, si7, gi8, si8, gi9, si9, gi10, si10, gi11, si11, gi12, si12, gi13, si13, gi14, si14, gi15, si15, ri0, ri1, ri2, ri3, ri4, ri5, ri6, ri7, ri8, ri9, ri10, ri11, ai0, ai1, ai2, ai3, ai4, ai5, ai6, ai7, ai8, ai9, List.map_cons, List.map_nil, List.cons_append, List.nil_append, List.append_nil, Option.map_some, R.bind_ok, Bool.not_true, Bool.not_false, if_true, if_false, Bool.false_eq_true, decide_true, decide_false, Nat.reduceSub, bindT, bindTs, List.length_cons, List.length_nil, sizeLine_eq, Nat.reduceAdd, Nat.reduceLeDiff, Nat.zero_add, decide_eq_true_eq, x_obj0, put0, put1, put2, ic0, ic1, ic2, ic3, ic4, ic5, ic6, ic7, ic8, ic9, ic10, ic11, ic12, ic13, ic14, ic15, ic16, ic17, ic18, ic19, ic20, ic21, ic22, ic23, Int.reduceEq, Int.reduceLT, Int.reduceLE, Int.reduceNeg, vB_var, vB_int, vB_str, vB_bl, vB_non, vB_glob, vB_tup, vB_lst, vB_dic0, vB_bin, vB_neg, vB_not, vB_and, vB_or, vB_cmp, vB_chain, vB_isN, vB_notN, vB_ifx, vB_sub, vB_slice, vB_call, vB_bi, vB_isi, vB_comp, vB_fmt, vB_fstr, vB_join, vB_own, rs_int, rs_str, rs_bl, rs_non, rs_tup, rs_lst, rs_dic, rs_scr, kFmt_ok, kJoin_ok, kJ_ok, kListM_ok, e_listM, e_fmt, e_fstr, e_join, j_nil, j_cons, kCmpC_ok, kCmpC_exc, s_ownAdd, s_appL, kOAdd_ok, kOAdd1_ok, addF_ok, sw_line_slide, sw_line_read, sw_line_try, sw_line_left, sw_line_right, sw_slide_line, sw_slide_read, sw_slide_try, sw_slide_left, sw_slide_right, sw_read_line, sw_read_slide, sw_read_try, sw_read_left, sw_read_right, sw_try_line, sw_try_slide, sw_try_read, sw_try_left, sw_try_right, sw_left_line, sw_left_slide, sw_left_read, sw_left_try, sw_left_right, sw_right_line, sw_right_slide, sw_right_read, sw_right_try, sw_right_left, it_lst, it_tup, kAppL_obj, kAppL1_ok, appF_ok, e_compI, cstep_ap, cst1_some, kCC_ok, kSome_ok, c_no, c_some, kCompI_ok, kCompE_ok, e_sset, e_lset, e_allL, i_seq, i_rng, i_rng2, i_enum, i_zip, kSeq_tup, kSeq_lst, kSeq_str, kSeq_exc, kRng2_ok, kEnum_lst, kZip_ok, kZip1_lst, vB_compI, vB_sset, vB_lset, vB_allL, rs_cdic, s_forI, s_ownExt, kForI_ok, kForI_exc, lstep_ap, lst1_some, kExt_lst, c_in, c_nin, s_aug, kAug_ok, au_add, au_sub, is_non_int, is_non_bool, is_non_str, is_non_tuple, is_non_list, is_non_dict, is_bl_int, is_bl_bool, is_bl_str, is_bl_tuple, is_bl_list, is_bl_dict, is_int_int, is_int_bool, is_int_str, is_int_tuple, is_int_list, is_int_dict, is_str_int, is_str_bool, is_str_str, is_str_tuple, is_str_list, is_str_dict, is_tup_int, is_tup_bool, is_tup_str, is_tup_tuple, is_tup_list, is_tup_dict, is_lst_int, is_lst_bool, is_lst_str, is_lst_tuple, is_lst_list, is_lst_dict, is_dic_int, is_dic_bool, is_dic_str, is_dic_tuple, is_dic_list, is_dic_dict, e_fld, e_prop, e_mcall, kFld_ok, kPrp_ok, kPrp1_some, kMth_ok, kMth1_some, kMth2_ok, rnox_ok, vB_fld, vB_prop, vB_mcall, s_setF, kSetF_ok, setFF_self, putD_nil, *])
def d_place_text : Df := ⟨2, 2, [],
    (.cons (.ret (.ifx (.cmp .eq (.var 1) (.int 0)) (.var 0) (.fstr (.cons (.fmt (.var 0)) (.cons (.str ".") (.cons (.fmt (.var 1)) .nil))))))
    .nil), false⟩
def d_figure_text : Df := ⟨1, 1, [],
    (.cons (.ret (.ifx (.val (.isi (.var 0) .str)) (.var 0) (.fstr (.cons (.fmt (.sub (.var 0) (.int 0))) (.cons (.str "/") (.cons (.fmt (.sub (.var 0) (.int 1))) .nil))))))
    .nil), false⟩
def d_step_text : Df := ⟨3, 1, [],
    (.cons (.ite (.cmp .eq (.sub (.var 0) (.int 0)) (.str "try"))
    (.cons (.set 1 (.call "steps_text" (.cons (.sub (.var 0) (.int 2)) .nil)))
    (.cons (.set 2 (.ifx (.cmp .ne (.var 1) (.str "")) (.bin .add (.bin .add (.str " } else { ") (.var 1)) (.str " }")) (.str " } else { }")))
    (.cons (.ret (.bin .add (.bin .add (.str "try { ") (.call "steps_text" (.cons (.sub (.var 0) (.int 1)) .nil))) (.var 2)))
    .nil)))
    .nil)
    (.cons (.ite (.cmp .eq (.sub (.var 0) (.int 0)) (.str "read"))
    (.cons (.ret (.fstr (.cons (.str "read ") (.cons (.fmt (.sub (.var 0) (.int 1))) (.cons (.str " ") (.cons (.fmt (.sub (.var 0) (.int 2))) .nil))))))
    .nil)
    .nil)
    (.cons (.ret (.fstr (.cons (.fmt (.sub (.var 0) (.int 0))) (.cons (.str " ") (.cons (.fmt (.call "place_text" (.cons (.sub (.var 0) (.int 1)) (.cons (.sub (.var 0) (.int 2)) .nil)))) (.cons (.str " ") (.cons (.fmt (.call "figure_text" (.cons (.sub (.var 0) (.int 3)) .nil))) .nil)))))))
    .nil))), false⟩
def d_steps_text : Df := ⟨2, 1, [],
    (.cons (.ret (.join " ; " (.comp (.call "step_text" (.cons (.var 1) .nil)) 1 (.var 0))))
    .nil), false⟩
def d_working_text : Df := ⟨1, 1, [],
    (.cons (.ret (.call "steps_text" (.cons (.var 0) .nil)))
    .nil), false⟩
def d_law_text_b1 : Ss := (.cons (.ite (.cmp .ne (.own 1) (.lst .nil))
    (.cons (.ownApp 1 (.str ";"))
    .nil)
    .nil)
    (.cons (.ite (.cmp .eq (.sub (.var 2) (.int 0)) (.str "try"))
    (.cons (.ownAdd 1 (.bin .add (.bin .add (.bin .add (.bin .add (.own 1) (.lst (.cons (.str "try") (.cons (.str "{") .nil)))) (.call "_law_text" (.cons (.sub (.var 2) (.int 1)) .nil))) (.lst (.cons (.str "}") (.cons (.str "else") (.cons (.str "{") .nil))))) (.call "_law_text" (.cons (.sub (.var 2) (.int 2)) .nil))) (.lst (.cons (.str "}") .nil)))
    .nil)
    (.cons (.ite (.cmp .eq (.sub (.var 2) (.int 0)) (.str "read"))
    (.cons (.ownAdd 1 (.own 1) (.bi .list (.var 2)))
    .nil)
    (.cons (.set 3 (.ifx (.val (.isi (.sub (.var 2) (.int 3)) .str)) (.sub (.var 2) (.int 3)) (.bin .add (.bin .add (.bi .str (.sub (.sub (.var 2) (.int 3)) (.int 0))) (.str "/")) (.bi .str (.sub (.sub (.var 2) (.int 3)) (.int 1))))))
    (.cons (.ownAdd 1 (.own 1) (.lst (.cons (.sub (.var 2) (.int 0)) (.cons (.ifx (.cmp .eq (.sub (.var 2) (.int 2)) (.int 0)) (.sub (.var 2) (.int 1)) (.bin .add (.bin .add (.sub (.var 2) (.int 1)) (.str ".")) (.bi .str (.sub (.var 2) (.int 2))))) (.cons (.var 3) .nil)))))
    .nil)))
    .nil))
    .nil))
def d_law_text : Df := ⟨4, 1, [],
    (.cons (.ownNew 1 .nil)
    (.cons (.for_ (.nm 2) (.var 0) d_law_text_b1)
    (.cons (.freeze 1)
    (.cons (.ret (.var 1))
    .nil)))), false⟩
section
open TL
variable {C : Cn} {t : Tbl}
/-! ### texts -/
def TX (B : Nat) (z : Str) : Prop := z.length ≤ B ∧ ∀ c ∈ z.cps.toList, c < 1114112
theorem TX.app {a b : Nat} {x y : Str} (h : TX a x) (k : TX b y) : TX (a + b) (x ++ y) := by
  refine ⟨by rw [strLen_append]; exact Nat.add_le_add h.1 k.1, fun c hc => ?_⟩
  have e : (x ++ y).cps.toList = x.cps.toList ++ y.cps.toList := tl_append x y
  rw [e] at hc
  rcases List.mem_append.mp hc with q | q
  · exact h.2 c q
  · exact k.2 c q
theorem TX.up {a b : Nat} {x : Str} (h : TX a x) (k : a ≤ b) : TX b x := ⟨Nat.le_trans h.1 k, h.2⟩
theorem TX.emp : TX 0 Str.empty := ⟨by decide, fun c h => by cases h⟩
theorem TX.lit (s : String) : TX s.length (Str.ofString s) := by
  refine ⟨by rw [PySem.ofString_length]; exact Nat.le_refl _, fun c hc => ?_⟩
  rw [Str.ofString_eq_toList] at hc
  obtain ⟨d, _, rfl⟩ := List.mem_map.mp (by simpa using hc)
  have hv : d.val.toNat < 0xd800 ∨ (0xdfff < d.val.toNat ∧ d.val.toNat < 0x110000) := d.valid
  show d.val.toNat < 1114112
  omega
theorem TX.int {i : Int} (h : i.natAbs < 2 ^ 20) : TX 21 (Str.ofString (toString i)) :=
  (TX.lit _).up (int_text_length_le (k := 20) (by decide) (PySem.Flt.log2_lt_of (by decide) h))
theorem TX.fits {a : Nat} {x : Str} (h : TX a x) (k : a ≤ 100000) : x.length ≤ sizeLine := by
  have := h.1
  rw [sizeLine_eq]; omega
theorem TX.join {B : Nat} {y : Str} (hy : TX 3 y) : ∀ {l : List Str}, (∀ z ∈ l, TX B z) → TX ((B + 3) * l.length) (Txt.join y l) := by
  intro l h
  rw [join_eq]
  induction l with
  | nil => exact ⟨Nat.zero_le _, fun c hc => by cases hc⟩
  | cons x r ih =>
    cases r with
    | nil => exact (h x List.mem_cons_self).up (by simp only [List.length_singleton]; omega)
    | cons z r =>
      have := ih fun z hz => h z (List.mem_cons_of_mem _ hz)
      refine (((h x List.mem_cons_self).app hy).app this).up ?_
      simp only [List.length_cons, Nat.mul_add, Nat.add_mul]
      omega
def plT (sc : Str) (k : Int) : Str := if k = 0 then sc else ((Str.empty ++ sc) ++ Str.ofString ".") ++ Str.ofString (toString k)
def fgT : Fig → Str
  | .nm z => z
  | .lft => Str.ofString "left"
  | .rgt => Str.ofString "right"
  | .mk p => ((Str.empty ++ Str.ofString (toString p.1)) ++ Str.ofString "/") ++ Str.ofString (toString p.2)
def setT (w : String) (sc : Str) (k : Int) (f : Fig) : Str := ((((Str.empty ++ Str.ofString w) ++ Str.ofString " ") ++ plT sc k) ++ Str.ofString " ") ++ fgT f
def reT (z : Str) : Str := if z = Str.ofString "" then Str.ofString " } else { }" else (Str.ofString " } else { " ++ z) ++ Str.ofString " }"
mutual
def stT : Stp → Str
  | .line sc k f => setT "line" sc k f
  | .slide sc k f => setT "slide" sc k f
  | .read sc z => (((Str.empty ++ Str.ofString "read ") ++ sc) ++ Str.ofString " ") ++ z
  | .tr a b => (Str.ofString "try { " ++ Txt.join (Str.ofString " ; ") (stTs a)) ++ reT (Txt.join (Str.ofString " ; ") (stTs b))
def stTs : List Stp → List Str
  | [] => []
  | s :: l => stT s :: stTs l
end
def stepsT (l : List Stp) : Str := Txt.join (Str.ofString " ; ") (stTs l)
theorem stTs_eq : ∀ l : List Stp, stTs l = l.map stT
  | [] => by simp [stTs]
  | s :: r => by simp [stTs, stTs_eq r]
/-! what may be written -/
def FigX : Fig → Prop
  | .nm z => TX 5 z
  | .mk p => p.1.natAbs < 2 ^ 20 ∧ p.2.natAbs < 2 ^ 20
  | _ => True
mutual
def StX : Stp → Prop
  | .line sc k f => TX 3 sc ∧ k.natAbs < 2 ^ 20 ∧ FigX f
  | .slide sc k f => TX 3 sc ∧ k.natAbs < 2 ^ 20 ∧ FigX f
  | .read sc z => TX 3 sc ∧ TX 5 z
  | .tr a b => (StXs a ∧ StXs b) ∧ a ≠ []
def StXs : List Stp → Prop
  | [] => True
  | s :: l => StX s ∧ StXs l
end
theorem StXs.mem : ∀ {l : List Stp}, StXs l → ∀ s ∈ l, StX s
  | s :: l, h, q, hq => by
    simp only [StXs] at h
    rcases List.mem_cons.mp hq with e | e
    · rw [e]; exact h.1
    · exact StXs.mem h.2 q e
theorem plT_tx {sc : Str} {k : Int} (h : TX 3 sc) (hk : k.natAbs < 2 ^ 20) : TX 25 (plT sc k) := by
  unfold plT
  split
  · exact h.up (by decide)
  · exact (((TX.emp.app h).app (TX.lit ".")).app (TX.int hk)).up (by decide)
theorem fgT_tx {f : Fig} (h : FigX f) : TX 43 (fgT f) := by
  cases f with
  | nm z => exact h.up (by decide)
  | mk p => exact (((TX.emp.app (TX.int h.1)).app (TX.lit "/")).app (TX.int h.2)).up (by decide)
  | lft => exact (TX.lit "left").up (by decide)
  | rgt => exact (TX.lit "right").up (by decide)
theorem sp_len {a : Nat} (h : a ≤ 5) : 0 + a + " ".length + 25 + " ".length + 43 ≤ 75 := by
  have : " ".length = 1 := by decide
  omega
theorem setT_tx {w : String} (hw : w.length ≤ 5) {sc : Str} {k : Int} {f : Fig} (h : TX 3 sc) (hk : k.natAbs < 2 ^ 20) (hf : FigX f) : TX 75 (setT w sc k f) :=
  ((((((TX.emp.app (TX.lit w)).app (TX.lit " ")).app (plT_tx h hk)).app (TX.lit " ")).app (fgT_tx hf))).up (sp_len hw)
theorem el_len (a : Nat) : " } else { ".length + 90 * a + " }".length ≤ 90 * a + 12 := by
  have : " } else { ".length = 10 := by decide
  have : " }".length = 2 := by decide
  omega
mutual
theorem stT_tx : ∀ s : Stp, StX s → TX (90 * s.size - 6) (stT s)
  | .line sc k f, h => by
    simp only [StX] at h
    exact (setT_tx (w := "line") (by decide) h.1 h.2.1 h.2.2).up (by simp [Stp.size])
  | .slide sc k f, h => by
    simp only [StX] at h
    exact (setT_tx (w := "slide") (by decide) h.1 h.2.1 h.2.2).up (by simp [Stp.size])
  | .read sc z, h => by
    simp only [StX] at h
    exact ((((TX.emp.app (TX.lit "read ")).app h.1).app (TX.lit " ")).app h.2).up (by simp only [Stp.size]; decide)
  | .tr a b, h => by
    simp only [StX] at h
    replace h := h.1
    have ha := stTs_tx a h.1
    have hb := stTs_tx b h.2
    have hr : TX (90 * sizes b + 12) (reT (Txt.join (Str.ofString " ; ") (stTs b))) := by
      unfold reT
      split
      · exact (TX.lit " } else { }").up (Nat.le_trans (show " } else { }".length ≤ 12 by decide) (by omega))
      · exact (((TX.lit " } else { ").app hb).app (TX.lit " }")).up (el_len _)
    refine (((TX.lit "try { ").app ha).app hr).up ?_
    have : "try { ".length = 6 := by decide
    simp only [Stp.size]
    omega
theorem stTs_tx : ∀ l : List Stp, StXs l → TX (90 * sizes l) (Txt.join (Str.ofString " ; ") (stTs l))
  | [], _ => by rw [join_eq]; exact ⟨Nat.zero_le _, fun c hc => by cases hc⟩
  | s :: l, h => by
    simp only [StXs] at h
    have h1 := stT_tx s h.1
    have h2 := stTs_tx l h.2
    have hp : 1 ≤ s.size := by cases s <;> simp [Stp.size]; omega
    rw [join_eq] at h2 ⊢
    cases l with
    | nil => exact h1.up (by simp only [sizes]; omega)
    | cons q l =>
      refine ((h1.app (TX.lit " ; ")).app h2).up ?_
      have : " ; ".length = 3 := by decide
      simp only [sizes] at *
      omega
end
/-! ### the program's texts -/
theorem TX.fit {a : Nat} {z : Str} (h : TX a z) (k : a ≤ 100000) : z.length ≤ 16777216 := by
  have := h.1
  omega
theorem fmt_s {a : Nat} {z : Str} (h : TX a z) (k : a ≤ 100000) : fmtD (.str z) = some (.str z) := if_pos (h.fits k)
theorem fmt_i {i : Int} (h : i.natAbs < 2 ^ 20) : fmtD (.int i) = some (.str (Str.ofString (toString i))) := if_pos (Nat.lt_trans (PySem.Flt.log2_lt_of (by decide) h) (by decide))
theorem str_i {s : S} {i : Int} (h : i.natAbs < 2 ^ 20) : biD s .str (.int i) = some (.str (Str.ofString (toString i))) := if_pos (Nat.lt_trans (PySem.Flt.log2_lt_of (by decide) h) (by decide))
theorem b_ss {a b : Nat} {x y : Str} (h : TX a x) (k : TX b y) (z : a + b ≤ 100000) : binD .add (.str x) (.str y) = some (.str (x ++ y)) := if_pos (by
  have h1 := h.1
  have h2 := k.1
  rw [sizeLine_eq]
  omega)
structure TT (t : Tbl) : Prop where
  place : t "place_text" = some d_place_text
  fig : t "figure_text" = some d_figure_text
  step : t "step_text" = some d_step_text
  steps : t "steps_text" = some d_steps_text
theorem place_text_ok (tt : TT t) (n : Nat) (st : S) {sc : Str} {k : Int} (h : TX 3 sc) (hk : k.natAbs < 2 ^ 20) : callN C t (n + 1) "place_text" [.str sc, .int k] st = .ok (.str (plT sc k)) st := by
  have t1 := TX.emp.app h
  have t2 := t1.app (TX.lit ".")
  have t3 := t2.app (TX.int hk)
  have l1 : ".".length = 1 := by decide
  rw [call_run tt.place rfl]
  simp only [d_place_text, plT]
  walk_at "p"
  split
  · walk_at "p"
  · rw [fmt_s h (by decide)]
    walk_at "p"
    rw [if_pos (t1.fit (by decide))]
    walk_at "p"
    rw [if_pos (t2.fit (by omega)), fmt_i hk]
    walk_at "p"
    rw [if_pos (t3.fit (by omega))]
    walk_at "p"
theorem figure_text_ok (tt : TT t) (n : Nat) (st : S) {f : Fig} (h : FigX f) : callN C t (n + 1) "figure_text" [figD f] st = .ok (.str (fgT f)) st := by
  rw [call_run tt.fig rfl]
  cases f with
  | nm z =>
    simp only [d_figure_text, figD, fgT]
    walk_at "p"
  | lft =>
    simp only [d_figure_text, figD, fgT]
    walk_at "p"
  | rgt =>
    simp only [d_figure_text, figD, fgT]
    walk_at "p"
  | mk p =>
    have t1 := TX.emp.app (TX.int h.1)
    have t2 := t1.app (TX.lit "/")
    have t3 := t2.app (TX.int h.2)
    have l1 : "/".length = 1 := by decide
    simp only [d_figure_text, figD, fgT, pP]
    walk_at "p"
    rw [fmt_i h.1]
    walk_at "p"
    rw [if_pos (t1.fit (by decide))]
    walk_at "p"
    rw [if_pos (t2.fit (by omega)), fmt_i h.2]
    walk_at "p"
    rw [if_pos (t3.fit (by omega))]
    walk_at "p"
theorem comp_st {f : D → S → R D} {g : Stp → D} {s : S} : ∀ {l : List Stp}, (∀ q ∈ l, f (stD q) s = .ok (g q) s) → compL f (l.map stD) s = .ok (l.map g) s
  | [], _ => rfl
  | q :: l, h => by
    rw [List.map_cons, List.map_cons]
    unfold compL
    rw [h q List.mem_cons_self]
    dsimp only
    rw [comp_st fun q hq => h q (List.mem_cons_of_mem _ hq)]
theorem strs_map : ∀ zs : List Str, strsD (zs.map .str) = some zs
  | [] => rfl
  | z :: r => by simp only [List.map_cons, strsD, strs_map r, Option.map_some]
theorem sum_tx {B : Nat} : ∀ {zs : List Str}, (∀ z ∈ zs, TX B z) → (zs.map (·.length)).sum ≤ B * zs.length
  | [], _ => by simp
  | z :: r, h => by
    have h1 := (h z List.mem_cons_self).1
    have h2 := sum_tx fun z hz => h z (List.mem_cons_of_mem _ hz)
    simp only [List.map_cons, List.sum_cons, List.length_cons, Nat.mul_add, Nat.mul_one]
    omega
theorem join_tx {s : S} {y : Str} (hy : TX 3 y) {B : Nat} {zs : List Str} (h : ∀ z ∈ zs, TX B z) (hb : B ≤ 10000) (hl : zs.length ≤ 1000) : joinD s y (.lst (zs.map .str)) = some (.str (Txt.join y zs)) := by
  have h1 := sum_tx h
  have h2 := hy.1
  have h3 : B * zs.length ≤ 10000 * 1000 := Nat.mul_le_mul hb hl
  have h4 : zs.length * y.length ≤ 1000 * 3 := Nat.mul_le_mul hl h2
  unfold joinD
  rw [it_lst, Option.bind_some, strs_map, Option.bind_some, if_pos (by omega)]
theorem size_len : ∀ l : List Stp, l.length ≤ sizes l
  | [] => Nat.le_refl _
  | s :: l => by
    have := size_len l
    have hp : 1 ≤ s.size := by cases s <;> simp [Stp.size]; omega
    simp only [List.length_cons, sizes]
    omega
theorem size_mem : ∀ {l : List Stp} {s : Stp}, s ∈ l → s.size ≤ sizes l ∧ s.depth ≤ depths l
  | q :: l, s, h => by
    simp only [sizes, depths]
    rcases List.mem_cons.mp h with e | e
    · subst e; exact ⟨by omega, by omega⟩
    · have := size_mem e
      exact ⟨by omega, by omega⟩
theorem steps_of (tt : TT t) {m : Nat} (st : S) {l : List Stp} (hs : sizes l ≤ 100) (hx : StXs l) (ih : ∀ s ∈ l, callN C t m "step_text" [stD s] st = .ok (.str (stT s)) st) : callN C t (m + 1) "steps_text" [.tup (l.map stD)] st = .ok (.str (stepsT l)) st := by
  have hlen := size_len l
  rw [call_run tt.steps rfl]
  simp only [d_steps_text]
  walk_at "p"
  rw [kComp_ok rfl (comp_st (g := fun q => .str (stT q)) fun q hq => ?_) (by rw [List.length_map, sizeLine_eq]; omega)]
  · have e : (l.map fun q => D.str (stT q)) = (l.map stT).map .str := by rw [List.map_map]; rfl
    walk_at "p"
    rw [e, join_tx ((TX.lit " ; ").up (by decide)) (B := 9000) (fun z hz => ?_) (by decide) (by rw [List.length_map]; omega)]
    · rw [← stTs_eq]
      walk_at "p"
      rfl
    · obtain ⟨q, hq, rfl⟩ := List.mem_map.mp hz
      have := (size_mem hq).1
      exact (stT_tx q (hx.mem q hq)).up (by omega)
  · have := ih q hq
    walk_at "p"
    exact this
theorem step_text_ok (tt : TT t) (st : S) : ∀ (dep n : Nat) (s : Stp), s.depth ≤ dep → s.size ≤ 100 → StX s → callN C t (n + 2 * dep + 2) "step_text" [stD s] st = .ok (.str (stT s)) st := by
  have plain : ∀ (m : Nat) (w : String) (sc : Str) (k : Int) (f : Fig), w = "line" ∨ w = "slide" → TX 3 sc → k.natAbs < 2 ^ 20 → FigX f → callN C t (m + 2) "step_text" [.tup [.str (Str.ofString w), .str sc, .int k, figD f]] st = .ok (.str (setT w sc k f)) st := by
    intro m w sc k f hw h1 h2 h3
    have wl : TX 5 (Str.ofString w) := (TX.lit w).up (by rcases hw with rfl | rfl <;> decide)
    have t1 := TX.emp.app wl
    have t2 := t1.app ((TX.lit " ").up (b := 1) (by decide))
    have t3 := t2.app (plT_tx h1 h2)
    have t4 := t3.app ((TX.lit " ").up (b := 1) (by decide))
    have t5 := t4.app (fgT_tx h3)
    have p1 := place_text_ok (C := C) tt m st h1 h2
    have p2 := figure_text_ok (C := C) tt m st h3
    have n1 : (Str.ofString w = Str.ofString "try") = False := by rcases hw with rfl | rfl <;> exact eq_false (by decide +kernel)
    have n2 : (Str.ofString w = Str.ofString "read") = False := by rcases hw with rfl | rfl <;> exact eq_false (by decide +kernel)
    rw [call_run tt.step rfl]
    simp only [d_step_text]
    walk_at "p"
    simp only [n1, n2]
    walk_at "p"
    simp only [n2]
    walk_at "p"
    rw [fmt_s wl (by decide)]
    walk_at "p"
    rw [if_pos (t1.fit (by decide)), if_pos (t2.fit (by decide)), p1]
    walk_at "p"
    rw [fmt_s (plT_tx h1 h2) (by decide)]
    walk_at "p"
    rw [if_pos (t3.fit (by decide)), if_pos (t4.fit (by decide)), p2]
    walk_at "p"
    rw [fmt_s (fgT_tx h3) (by decide)]
    walk_at "p"
    rw [if_pos (t5.fit (by decide))]
    walk_at "p"
    rfl
  have rd : ∀ (m : Nat) (sc z : Str), TX 3 sc → TX 5 z → callN C t (m + 1) "step_text" [stD (.read sc z)] st = .ok (.str (stT (.read sc z))) st := by
    intro m sc z h1 h2
    have t1 := TX.emp.app (TX.lit "read ")
    have t2 := t1.app h1
    have t3 := t2.app (TX.lit " ")
    have t4 := t3.app h2
    have l1 : "read ".length = 5 := by decide
    have l2 : " ".length = 1 := by decide
    rw [call_run tt.step rfl]
    simp only [d_step_text, stD, stT]
    walk_at "p"
    rw [if_pos (t1.fit (by omega)), fmt_s h1 (by decide)]
    walk_at "p"
    rw [if_pos (t2.fit (by omega)), if_pos (t3.fit (by omega)), fmt_s h2 (by decide)]
    walk_at "p"
    rw [if_pos (t4.fit (by omega))]
    walk_at "p"
  intro dep
  induction dep with
  | zero =>
    intro n s hd hz hx
    cases s with
    | line sc k f => simp only [StX] at hx; rw [stD, stT]; exact plain _ "line" sc k f (.inl rfl) hx.1 hx.2.1 hx.2.2
    | slide sc k f => simp only [StX] at hx; rw [stD, stT]; exact plain _ "slide" sc k f (.inr rfl) hx.1 hx.2.1 hx.2.2
    | read sc z => simp only [StX] at hx; exact rd _ sc z hx.1 hx.2
    | tr a b => simp only [Stp.depth] at hd; omega
  | succ dep ih =>
    intro n s hd hz hx
    cases s with
    | line sc k f => simp only [StX] at hx; rw [stD, stT]; exact plain _ "line" sc k f (.inl rfl) hx.1 hx.2.1 hx.2.2
    | slide sc k f => simp only [StX] at hx; rw [stD, stT]; exact plain _ "slide" sc k f (.inr rfl) hx.1 hx.2.1 hx.2.2
    | read sc z => simp only [StX] at hx; exact rd _ sc z hx.1 hx.2
    | tr a b =>
      simp only [StX] at hx
      replace hx := hx.1
      simp only [Stp.depth] at hd
      simp only [Stp.size] at hz
      have pa := steps_of (C := C) tt (m := n + 2 * dep + 2) st (l := a) (by omega) hx.1 fun s hs => ih n s (by have := (size_mem hs).2; omega) (by have := (size_mem hs).1; omega) (hx.1.mem s hs)
      have pb := steps_of (C := C) tt (m := n + 2 * dep + 2) st (l := b) (by omega) hx.2 fun s hs => ih n s (by have := (size_mem hs).2; omega) (by have := (size_mem hs).1; omega) (hx.2.mem s hs)
      have ta := stTs_tx a hx.1
      have tb := stTs_tx b hx.2
      rw [show n + 2 * (dep + 1) + 2 = n + 2 * dep + 2 + 1 + 1 from by omega, call_run tt.step rfl]
      simp only [d_step_text, stD, stDs_eq, stT]
      walk_at "p"
      rw [pb]
      walk_at "p"
      have l1 : " } else { ".length = 10 := by decide
      have l2 : " }".length = 2 := by decide
      have l3 : "try { ".length = 6 := by decide
      have l4 : " } else { }".length = 11 := by decide
      have t1 := (TX.lit " } else { ").app tb
      have t2 := t1.app (TX.lit " }")
      have t3 := (TX.lit "try { ").app ta
      have e1 : stepsT b = Txt.join (Str.ofString " ; ") (stTs b) := rfl
      have e2 : stepsT a = Txt.join (Str.ofString " ; ") (stTs a) := rfl
      unfold reT
      by_cases hb : stepsT b = Str.ofString ""
      · rw [hb] at e1
        rw [hb, ← e1]
        walk_at "p"
        rw [pa]
        walk_at "p"
        rw [e2, b_ss (TX.lit "try { ") ta (by omega)]
        walk_at "p"
        rw [b_ss t3 (TX.lit " } else { }") (by omega)]
        walk_at "p"
      · rw [e1] at hb
        rw [e1, if_neg hb]
        simp only [hb]
        walk_at "p"
        rw [b_ss (TX.lit " } else { ") tb (by omega)]
        walk_at "p"
        rw [b_ss t1 (TX.lit " }") (by omega)]
        walk_at "p"
        rw [pa]
        walk_at "p"
        rw [e2, b_ss (TX.lit "try { ") ta (by omega)]
        walk_at "p"
        rw [b_ss t3 t2 (by omega)]
        walk_at "p"
end
end PV

set_option Elab.async false
set_option linter.all false
set_option maxRecDepth 100000
set_option maxHeartbeats 1000000
set_option exponentiation.threshold 30000
set_option pp.maxSteps 600
set_option pp.deepTerms false
set_option pp.deepTerms.threshold 6
namespace PV
open PySem PySem.Spec PyProof.Rows L2
local macro_rules | `(tactic| walk_at "pv") => `(tactic| simp only [e_var, e_int, e_str, e_bl, e_non, e_glob, e_tup, e_lst, e_lstM, e_dic0, e_bin, e_neg, e_not, e_and, e_or, e_cmp, e_chain, e_isN, e_notN, e_ifx, e_sub, e_slice, e_call, e_bi, e_isi, e_comp, es_nil, es_cons, o_no, o_some, t_val, t_and, t_or, t_not, t_cmp, t_chain, t_isN, t_notN, kCons_ok, kCons_exc, kCons1_ok, kCons1_exc, kTup_ok, kTup_exc, kLst_ok, kLst_exc, kLstM_ok, kCall_ok, kCall_exc, kBin_ok, kBin_exc, kBin1_ok, kBin1_exc, kNeg_ok, kNot_ok, kNot_exc, kAnd_ok, kAnd_exc, kOr_ok, kOr_exc, kCmp_ok, kCmp_exc, kCmp1_ok, kCmp1_exc, kCh_ok, kCh1_ok, kCh2_some, kIf_ok, kIf_exc, kSub_ok, kSub_exc, kSub1_ok, kSub1_exc, kSl_ok, kSl1_ok, kSl2_ok, kBi_ok, kBi_exc, kIsi_ok, kTru_bl, kTru_exc, kTAnd_ok, kTAnd_exc, kTOr_ok, kTOr_exc, kTNot_ok, kTNot_exc, kTB_ok, kTB_exc, kInt_ok, kIsN_non, kNotN_non, ofO_some, ss_nil, ss_cons, s_expr, s_set, s_par, s_asg, s_putL, s_ownNew, s_ownApp, s_freeze, s_ret, s_retN, s_ite, s_whl, s_forN, s_forR, s_brk, s_cont, s_pass, s_raise, s_try, sq_nx, sq_rt, sq_bk, sq_ct, sq_exc, kExpr_ok, kExpr_exc, kSet_ok, kSet_exc, kPar_ok, kPar_exc, kPar1_ok, kPar1_exc, kAsg_ok, kAsg_exc, kPut_ok, kPut1_ok, kPut2_ok, kOwn_ok, kApp_ok, kRet_ok, kRet_exc, kSIf_ok, kSIf_exc, kFor_tup, kFor_lst, kRun_nx, kRun_rt, kRun_exc, kTry_ok, kTry_exc, nox_ok, eq_ii, eq_ss, si0, si1, si2, si3, si4, si5, si6, si7, si8, si9, si10, si11, si12, si13, si14, si15, b_add, b_sub, c_lt, c_le, c_gt, c_ge, eq_ii, eq_ss, c_eq, c_ne, k_abs, k_int, k_intB, k_lenT, k_lenL, k_lenS, x_tup, x_lst, gi0, si0, gi1, si1, gi2, si2, gi3, si3, gi4, si4, gi5, si5, gi6, si6, gi7, si7, gi8, si8, gi9, si9, gi10, si10, gi11, si11, gi12, si12, gi13, si13, gi14, si14, gi15, si15, ri0, ri1, ri2, ri3, ri4, ri5, ri6, ri7, ri8, ri9, ri10, ri11, ai0, ai1, ai2, ai3, ai4, ai5, ai6, ai7, ai8, ai9, List.map_cons, List.map_nil, List.cons_append, List.nil_append, List.append_nil, Option.map_some, R.bind_ok, Bool.not_true, Bool.not_false, if_true, if_false, Bool.false_eq_true, decide_true, decide_false, Nat.reduceSub, bindT, bindTs, List.length_cons, List.length_nil, sizeLine_eq, Nat.reduceAdd, Nat.reduceLeDiff, Nat.zero_add, decide_eq_true_eq, x_obj0, put0, put1, put2, ic0, ic1, ic2, ic3, ic4, ic5, ic6, ic7, ic8, ic9, ic10, ic11, ic12, ic13, ic14, ic15, ic16, ic17, ic18, ic19, ic20, ic21, ic22, ic23, Int.reduceEq, Int.reduceLT, Int.reduceLE, Int.reduceNeg, vB_var, vB_int, vB_str, vB_bl, vB_non, vB_glob, vB_tup, vB_lst, vB_dic0, vB_bin, vB_neg, vB_not, vB_and, vB_or, vB_cmp, vB_chain, vB_isN, vB_notN, vB_ifx, vB_sub, vB_slice, vB_call, vB_bi, vB_isi, vB_comp, vB_fmt, vB_fstr, vB_join, vB_own, rs_int, rs_str, rs_bl, rs_non, rs_tup, rs_lst, rs_dic, rs_scr, kFmt_ok, kJoin_ok, kJ_ok, kListM_ok, e_listM, e_fmt, e_fstr, e_join, j_nil, j_cons, kCmpC_ok, kCmpC_exc, s_ownAdd, s_appL, kOAdd_ok, kOAdd1_ok, addF_ok, sw_line_slide, sw_line_read, sw_line_try, sw_line_left, sw_line_right, sw_slide_line, sw_slide_read, sw_slide_try, sw_slide_left, sw_slide_right, sw_read_line, sw_read_slide, sw_read_try, sw_read_left, sw_read_right, sw_try_line, sw_try_slide, sw_try_read, sw_try_left, sw_try_right, sw_left_line, sw_left_slide, sw_left_read, sw_left_try, sw_left_right, sw_right_line, sw_right_slide, sw_right_read, sw_right_try, sw_right_left, it_lst, it_tup, kAppL_obj, kAppL1_ok, appF_ok, e_compI, cstep_ap, cst1_some, kCC_ok, kSome_ok, c_no, c_some, kCompI_ok, kCompE_ok, e_sset, e_lset, e_allL, i_seq, i_rng, i_rng2, i_enum, i_zip, kSeq_tup, kSeq_lst, kSeq_str, kSeq_exc, kRng2_ok, kEnum_lst, kZip_ok, kZip1_lst, vB_compI, vB_sset, vB_lset, vB_allL, rs_cdic, s_forI, s_ownExt, kForI_ok, kForI_exc, lstep_ap, lst1_some, kExt_lst, c_in, c_nin, s_aug, kAug_ok, au_add, au_sub, is_non_int, is_non_bool, is_non_str, is_non_tuple, is_non_list, is_non_dict, is_bl_int, is_bl_bool, is_bl_str, is_bl_tuple, is_bl_list, is_bl_dict, is_int_int, is_int_bool, is_int_str, is_int_tuple, is_int_list, is_int_dict, is_str_int, is_str_bool, is_str_str, is_str_tuple, is_str_list, is_str_dict, is_tup_int, is_tup_bool, is_tup_str, is_tup_tuple, is_tup_list, is_tup_dict, is_lst_int, is_lst_bool, is_lst_str, is_lst_tuple, is_lst_list, is_lst_dict, is_dic_int, is_dic_bool, is_dic_str, is_dic_tuple, is_dic_list, is_dic_dict, e_fld, e_prop, e_mcall, kFld_ok, kPrp_ok, kPrp1_some, kMth_ok, kMth1_some, kMth2_ok, rnox_ok, vB_fld, vB_prop, vB_mcall, s_setF, kSetF_ok, setFF_self, putD_nil])
local macro_rules | `(tactic| walk_at "p") => `(tactic| try simp only [e_var, e_int, e_str, e_bl, e_non, e_glob, e_tup, e_lst, e_lstM, e_dic0, e_bin, e_neg, e_not, e_and, e_or, e_cmp, e_chain, e_isN, e_notN, e_ifx, e_sub, e_slice, e_call, e_bi, e_isi, e_comp, es_nil, es_cons, o_no, o_some, t_val, t_and, t_or, t_not, t_cmp, t_chain, t_isN, t_notN, kCons_ok, kCons_exc, kCons1_ok, kCons1_exc, kTup_ok, kTup_exc, kLst_ok, kLst_exc, kLstM_ok, kCall_ok, kCall_exc, kBin_ok, kBin_exc, kBin1_ok, kBin1_exc, kNeg_ok, kNot_ok, kNot_exc, kAnd_ok, kAnd_exc, kOr_ok, kOr_exc, kCmp_ok, kCmp_exc, kCmp1_ok, kCmp1_exc, kCh_ok, kCh1_ok, kCh2_some, kIf_ok, kIf_exc, kSub_ok, kSub_exc, kSub1_ok, kSub1_exc, kSl_ok, kSl1_ok, kSl2_ok, kBi_ok, kBi_exc, kIsi_ok, kTru_bl, kTru_exc, kTAnd_ok, kTAnd_exc, kTOr_ok, kTOr_exc, kTNot_ok, kTNot_exc, kTB_ok, kTB_exc, kInt_ok, kIsN_non, kNotN_non, ofO_some, ss_nil, ss_cons, s_expr, s_set, s_par, s_asg, s_putL, s_ownNew, s_ownApp, s_freeze, s_ret, s_retN, s_ite, s_whl, s_forN, s_forR, s_brk, s_cont, s_pass, s_raise, s_try, sq_nx, sq_rt, sq_bk, sq_ct, sq_exc, kExpr_ok, kExpr_exc, kSet_ok, kSet_exc, kPar_ok, kPar_exc, kPar1_ok, kPar1_exc, kAsg_ok, kAsg_exc, kPut_ok, kPut1_ok, kPut2_ok, kOwn_ok, kApp_ok, kRet_ok, kRet_exc, kSIf_ok, kSIf_exc, kFor_tup, kFor_lst, kRun_nx, kRun_rt, kRun_exc, kTry_ok, kTry_exc, nox_ok, eq_ii, eq_ss, si0, si1, si2, si3, si4, si5, si6, si7, si8, si9, si10, si11, si12, si13, si14, si15, b_add, b_sub, c_lt, c_le, c_gt, c_ge, eq_ii, eq_ss, c_eq, c_ne, k_abs, k_int, k_intB, k_lenT, k_lenL, k_lenS, x_tup, x_lst, gi0, si0, gi1, si1, gi2, si2, gi3, si3, gi4, si4, gi5, si5, gi6, si6, gi7, si7, gi8, si8, gi9, si9, gi10, si10, gi11, si11, gi12, si12, gi13, si13, gi14, si14, gi15, si15, ri0, ri1, ri2, ri3, ri4, ri5, ri6, ri7, ri8, ri9, ri10, ri11, ai0, ai1, ai2, ai3, ai4, ai5, ai6, ai7, ai8, ai9, List.map_cons, List.map_nil, List.cons_append, List.nil_append, List.append_nil, Option.map_some, R.bind_ok, Bool.not_true, Bool.not_false, if_true, if_false, Bool.false_eq_true, decide_true, decide_false, Nat.reduceSub, bindT, bindTs, List.length_cons, List.length_nil, sizeLine_eq, Nat.reduceAdd, Nat.reduceLeDiff, Nat.zero_add, decide_eq_true_eq, x_obj0, put0, put1, put2, ic0, ic1, ic2, ic3, ic4, ic5, ic6, ic7, ic8, ic9, ic10, ic11, ic12, ic13, ic14, ic15, ic16, ic17, ic18, ic19, ic20, ic21, ic22, ic23, Int.reduceEq, Int.reduceLT, Int.reduceLE, Int.reduceNeg, vB_var, vB_int, vB_str, vB_bl, vB_non, vB_glob, vB_tup, vB_lst, vB_dic0, vB_bin, vB_neg, vB_not, vB_and, vB_or, vB_cmp, vB_chain, vB_isN, vB_notN, vB_ifx, vB_sub, vB_slice, vB_call, vB_bi, vB_isi, vB_comp, vB_fmt, vB_fstr, vB_join, vB_own, rs_int, rs_str, rs_bl, rs_non, rs_tup, rs_lst, rs_dic, rs_scr, kFmt_ok, kJoin_ok, kJ_ok, kListM_ok, e_listM, e_fmt, e_fstr, e_join, j_nil, j_cons, kCmpC_ok, kCmpC_exc, s_ownAdd, s_appL, kOAdd_ok, kOAdd1_ok, addF_ok, sw_line_slide, sw_line_read, sw_line_try, sw_line_left, sw_line_right, sw_slide_line, sw_slide_read, sw_slide_try, sw_slide_left, sw_slide_right, sw_read_line, sw_read_slide, sw_read_try, sw_read_left, sw_read_right, sw_try_line, sw_try_slide, sw_try_read, sw_try_left, sw_try_right, sw_left_line, sw_left_slide, sw_left_read, sw_left_try, sw_left_right, sw_right_line, sw_right_slide, sw_right_read, sw_right_try, sw_right_left, it_lst, it_tup, kAppL_obj, kAppL1_ok, appF_ok, e_compI, cstep_ap, cst1_some, kCC_ok, kSome_ok, c_no, c_some, kCompI_ok, kCompE_ok, e_sset, e_lset, e_allL, i_seq, i_rng, i_rng2, i_enum, i_zip, kSeq_tup, kSeq_lst, kSeq_str, kSeq_exc, kRng2_ok, kEnum_lst, kZip_ok, kZip1_lst, vB_compI, vB_sset, vB_lset, vB_allL, rs_cdic, s_forI, s_ownExt, kForI_ok, kForI_exc, lstep_ap, lst1_some, kExt_lst, c_in, c_nin, s_aug, kAug_ok, au_add, au_sub, is_non_int, is_non_bool, is_non_str, is_non_tuple, is_non_list, is_non_dict, is_bl_int, is_bl_bool, is_bl_str, is_bl_tuple, is_bl_list, is_bl_dict, is_int_int, is_int_bool, is_int_str, is_int_tuple, is_int_list, is_int_dict, is_str_int, is_str_bool, is_str_str, is_str_tuple, is_str_list, is_str_dict, is_tup_int, is_tup_bool, is_tup_str, is_tup_tuple, is_tup_list, is_tup_dict, is_lst_int, is_lst_bool, is_lst_str, is_lst_tuple, is_lst_list, is_lst_dict, is_dic_int, is_dic_bool, is_dic_str, is_dic_tuple, is_dic_list, is_dic_dict, e_fld, e_prop, e_mcall, kFld_ok, kPrp_ok, kPrp1_some, kMth_ok, kMth1_some, kMth2_ok, rnox_ok, vB_fld, vB_prop, vB_mcall, s_setF, kSetF_ok, setFF_self, putD_nil])
local macro_rules | `(tactic| walk_at "pvh") => `(tactic| simp only [e_var, e_int, e_str, e_bl, e_non, e_glob, e_tup, e_lst, e_lstM, e_dic0, e_bin, e_neg, e_not, e_and, e_or, e_cmp, e_chain, e_isN, e_notN, e_ifx, e_sub, e_slice, e_call, e_bi, e_isi, e_comp, es_nil, es_cons, o_no, o_some, t_val, t_and, t_or, t_not, t_cmp, t_chain, t_isN, t_notN, kCons_ok, kCons_exc, kCons1_ok, kCons1_exc, kTup_ok, kTup_exc, kLst_ok, kLst_exc, kLstM_ok, kCall_ok, kCall_exc, kBin_ok, kBin_exc, kBin1_ok, kBin1_exc, kNeg_ok, kNot_ok, kNot_exc, kAnd_ok, kAnd_exc, kOr_ok, kOr_exc, kCmp_ok, kCmp_exc, kCmp1_ok, kCmp1_exc, kCh_ok, kCh1_ok, kCh2_some, kIf_ok, kIf_exc, kSub_ok, kSub_exc, kSub1_ok, kSub1_exc, kSl_ok, kSl1_ok, kSl2_ok, kBi_ok, kBi_exc, kIsi_ok, kTru_bl, kTru_exc, kTAnd_ok, kTAnd_exc, kTOr_ok, kTOr_exc, kTNot_ok, kTNot_exc, kTB_ok, kTB_exc, kInt_ok, kIsN_non, kNotN_non, ofO_some, ss_nil, ss_cons, s_expr, s_set, s_par, s_asg, s_putL, s_ownNew, s_ownApp, s_freeze, s_ret, s_retN, s_ite, s_whl, s_forN, s_forR, s_brk, s_cont, s_pass, s_raise, s_try, sq_nx, sq_rt, sq_bk, sq_ct, sq_exc, kExpr_ok, kExpr_exc, kSet_ok, kSet_exc, kPar_ok, kPar_exc, kPar1_ok, kPar1_exc, kAsg_ok, kAsg_exc, kPut_ok, kPut1_ok, kPut2_ok, kOwn_ok, kApp_ok, kRet_ok, kRet_exc, kSIf_ok, kSIf_exc, kFor_tup, kFor_lst, kRun_nx, kRun_rt, kRun_exc, kTry_ok, kTry_exc, nox_ok, eq_ii, eq_ss, si0, si1, si2, si3, si4, si5, si6, si7, si8, si9, si10, si11, si12, si13, si14, si15, b_add, b_sub, c_lt, c_le, c_gt, c_ge, eq_ii, eq_ss, c_eq, c_ne, k_abs, k_int, k_intB, k_lenT, k_lenL, k_lenS, x_tup, x_lst, gi0, si0, gi1, si1, gi2, si2, gi3, si3, gi4, si4, gi5, si5, gi6, si6, gi7, si7, gi8, si8, gi9, si9, gi10, si10, gi11, si11, gi12, si12, gi13, si13, gi14, si14, gi15, si15, ri0, ri1, ri2, ri3, ri4, ri5, ri6, ri7, ri8, ri9, ri10, ri11, ai0, ai1, ai2, ai3, ai4, ai5, ai6, ai7, ai8, ai9, List.map_cons, List.map_nil, List.cons_append, List.nil_append, List.append_nil, Option.map_some, R.bind_ok, Bool.not_true, Bool.not_false, if_true, if_false, Bool.false_eq_true, decide_true, decide_false, Nat.reduceSub, bindT, bindTs, List.length_cons, List.length_nil, sizeLine_eq, Nat.reduceAdd, Nat.reduceLeDiff, Nat.zero_add, decide_eq_true_eq, x_obj0, put0, put1, put2, ic0, ic1, ic2, ic3, ic4, ic5, ic6, ic7, ic8, ic9, ic10, ic11, ic12, ic13, ic14, ic15, ic16, ic17, ic18, ic19, ic20, ic21, ic22, ic23, Int.reduceEq, Int.reduceLT, Int.reduceLE, Int.reduceNeg, vB_var, vB_int, vB_str, vB_bl, vB_non, vB_glob, vB_tup, vB_lst, vB_dic0, vB_bin, vB_neg, vB_not, vB_and, vB_or, vB_cmp, vB_chain, vB_isN, vB_notN, vB_ifx, vB_sub, vB_slice, vB_call, vB_bi, vB_isi, vB_comp, vB_fmt, vB_fstr, vB_join, vB_own, rs_int, rs_str, rs_bl, rs_non, rs_tup, rs_lst, rs_dic, rs_scr, kFmt_ok, kJoin_ok, kJ_ok, kListM_ok, e_listM, e_fmt, e_fstr, e_join, j_nil, j_cons, kCmpC_ok, kCmpC_exc, s_ownAdd, s_appL, kOAdd_ok, kOAdd1_ok, addF_ok, sw_line_slide, sw_line_read, sw_line_try, sw_line_left, sw_line_right, sw_slide_line, sw_slide_read, sw_slide_try, sw_slide_left, sw_slide_right, sw_read_line, sw_read_slide, sw_read_try, sw_read_left, sw_read_right, sw_try_line, sw_try_slide, sw_try_read, sw_try_left, sw_try_right, sw_left_line, sw_left_slide, sw_left_read, sw_left_try, sw_left_right, sw_right_line, sw_right_slide, sw_right_read, sw_right_try, sw_right_left, it_lst, it_tup, kAppL_obj, kAppL1_ok, appF_ok, e_compI, cstep_ap, cst1_some, kCC_ok, kSome_ok, c_no, c_some, kCompI_ok, kCompE_ok, e_sset, e_lset, e_allL, i_seq, i_rng, i_rng2, i_enum, i_zip, kSeq_tup, kSeq_lst, kSeq_str, kSeq_exc, kRng2_ok, kEnum_lst, kZip_ok, kZip1_lst, vB_compI, vB_sset, vB_lset, vB_allL, rs_cdic, s_forI, s_ownExt, kForI_ok, kForI_exc, lstep_ap, lst1_some, kExt_lst, c_in, c_nin, s_aug, kAug_ok, au_add, au_sub, is_non_int, is_non_bool, is_non_str, is_non_tuple, is_non_list, is_non_dict, is_bl_int, is_bl_bool, is_bl_str, is_bl_tuple, is_bl_list, is_bl_dict, is_int_int, is_int_bool, is_int_str, is_int_tuple, is_int_list, is_int_dict, is_str_int, is_str_bool, is_str_str, is_str_tuple, is_str_list, is_str_dict, is_tup_int, is_tup_bool, is_tup_str, is_tup_tuple, is_tup_list, is_tup_dict, is_lst_int, is_lst_bool, is_lst_str, is_lst_tuple, is_lst_list, is_lst_dict, is_dic_int, is_dic_bool, is_dic_str, is_dic_tuple, is_dic_list, is_dic_dict, e_fld, e_prop, e_mcall, kFld_ok, kPrp_ok, kPrp1_some, kMth_ok, kMth1_some, kMth2_ok, rnox_ok, vB_fld, vB_prop, vB_mcall, s_setF, kSetF_ok, setFF_self, putD_nil, *])
section
open TL
variable {C : Cn} {t : Tbl}
theorem emp_app (x : Str) : Str.empty ++ x = x := ext_tl (by rw [tl_append]; rfl)
theorem TX.ok {B : Nat} {z : Str} (h : TX B z) : PyData.strOk z = true := by
  unfold PyData.strOk
  rw [Array.all_eq_true']
  intro c hc
  exact decide_eq_true (h.2 c (by simpa using hc))
theorem pds_strs : ∀ zs : List Str, D.pds (zs.map .str) = some (zs.map .str)
  | [] => rfl
  | z :: r => by simp only [List.map_cons, D.pds, D.pd, pds_strs r]
theorem lay_strs : ∀ {zs : List Str}, (∀ z ∈ zs, PyData.strOk z = true) → PyData.canLayAll0 (zs.map .str) = true ∧ PyData.depthAll (zs.map .str) ≤ 1 ∧ PyData.hasDictAll (zs.map .str) = false
  | [], _ => by simp [PyData.canLayAll0, PyData.depthAll, PyData.hasDictAll]
  | z :: r, h => by
    obtain ⟨h1, h2, h3⟩ := lay_strs fun z hz => h z (List.mem_cons_of_mem _ hz)
    refine ⟨?_, ?_, ?_⟩
    · simp [PyData.canLayAll0, PyData.canLay0, h z List.mem_cons_self, h1]
    · simp [PyData.depthAll, PyData.depth]; omega
    · simp [PyData.hasDictAll, PyData.hasDict, h3]
theorem eq_nil {zs : List Str} (h : ∀ z ∈ zs, PyData.strOk z = true) : eqD (.lst (zs.map .str)) (.lst []) = some (decide (zs = [])) := by
  obtain ⟨h1, h2, h3⟩ := lay_strs h
  have e : (D.lst (zs.map .str)).pd = some (.list (zs.map .str)) := by simp only [D.pd, pds_strs, Option.map_some]
  have e2 : (D.lst []).pd = some (.list []) := rfl
  have s1 : SeqAt.shaped (.list (zs.map .str)) = true := by
    unfold SeqAt.shaped
    rw [Bool.and_eq_true, decide_eq_true_eq]
    refine ⟨by simpa only [PyData.canLay0] using h1, ?_⟩
    simp only [PyData.depth]
    omega
  have s2 : SeqAt.shaped (.list []) = true := by decide
  have d1 : PyData.hasDict (.list (zs.map .str)) = false := by simpa only [PyData.hasDict] using h3
  have d2 : PyData.hasDict (.list []) = false := rfl
  have v : PyData.eqv (.list (zs.map .str)) (.list []) = decide (zs = []) := by
    cases zs with
    | nil => simp [PyData.eqv, PyData.eqvAll]
    | cons z r => simp [PyData.eqv, PyData.eqvAll]
  show (match (D.lst (zs.map .str)).pd, (D.lst []).pd with | some a, some b => _ | _, _ => _) = _
  rw [e, e2]
  dsimp only
  rw [if_pos ⟨⟨s1, s2⟩, d1, d2⟩, v]
/-! ### the law's pieces -/
mutual
def pcS : Stp → List Str
  | .line sc k f => [Str.ofString "line", plT sc k, fgT f]
  | .slide sc k f => [Str.ofString "slide", plT sc k, fgT f]
  | .read sc z => [Str.ofString "read", sc, z]
  | .tr a b => (((([Str.ofString "try", Str.ofString "{"] ++ pcsA [] a) ++ [Str.ofString "}", Str.ofString "else", Str.ofString "{"]) ++ pcsA [] b) ++ [Str.ofString "}"])
def pcsA : List Str → List Stp → List Str
  | acc, [] => acc
  | acc, s :: l => pcsA ((if acc = [] then [] else acc ++ [Str.ofString ";"]) ++ pcS s) l
end
def pcs (l : List Stp) : List Str := pcsA [] l
mutual
theorem pcS_tx : ∀ s : Stp, StX s → (∀ z ∈ pcS s, TX 43 z) ∧ (pcS s).length ≤ 8 * s.size - 1
  | .line sc k f, h => by
    simp only [StX] at h
    refine ⟨fun z hz => ?_, by simp [pcS, Stp.size]⟩
    simp only [pcS, List.mem_cons, List.not_mem_nil, or_false] at hz
    rcases hz with rfl | rfl | rfl
    · exact (TX.lit _).up (by decide)
    · exact (plT_tx h.1 h.2.1).up (by decide)
    · exact fgT_tx h.2.2
  | .slide sc k f, h => by
    simp only [StX] at h
    refine ⟨fun z hz => ?_, by simp [pcS, Stp.size]⟩
    simp only [pcS, List.mem_cons, List.not_mem_nil, or_false] at hz
    rcases hz with rfl | rfl | rfl
    · exact (TX.lit _).up (by decide)
    · exact (plT_tx h.1 h.2.1).up (by decide)
    · exact fgT_tx h.2.2
  | .read sc z, h => by
    simp only [StX] at h
    refine ⟨fun y hz => ?_, by simp [pcS, Stp.size]⟩
    simp only [pcS, List.mem_cons, List.not_mem_nil, or_false] at hz
    rcases hz with rfl | rfl | rfl
    · exact (TX.lit _).up (by decide)
    · exact h.1.up (by decide)
    · exact h.2.up (by decide)
  | .tr a b, h => by
    simp only [StX] at h
    replace h := h.1
    obtain ⟨a1, a2⟩ := pcsA_tx a [] h.1 (by simp)
    obtain ⟨b1, b2⟩ := pcsA_tx b [] h.2 (by simp)
    refine ⟨fun z hz => ?_, ?_⟩
    · simp only [pcS, List.mem_append, List.mem_cons, List.not_mem_nil, or_false] at hz
      rcases hz with (((((rfl | rfl) | q) | (rfl | rfl | rfl)) | q) | rfl)
      · exact (TX.lit _).up (by decide)
      · exact (TX.lit _).up (by decide)
      · exact a1 z q
      · exact (TX.lit _).up (by decide)
      · exact (TX.lit _).up (by decide)
      · exact (TX.lit _).up (by decide)
      · exact b1 z q
      · exact (TX.lit _).up (by decide)
    · simp only [pcS, List.length_append, List.length_cons, List.length_nil, Stp.size] at *
      omega
theorem pcsA_tx : ∀ (l : List Stp) (acc : List Str), StXs l → (∀ z ∈ acc, TX 43 z) → (∀ z ∈ pcsA acc l, TX 43 z) ∧ (pcsA acc l).length ≤ acc.length + 8 * sizes l
  | [], acc, _, h => ⟨by simpa only [pcsA] using h, by simp [pcsA]⟩
  | s :: l, acc, hx, h => by
    simp only [StXs] at hx
    obtain ⟨s1, s2⟩ := pcS_tx s hx.1
    have hp : 1 ≤ s.size := by cases s <;> simp [Stp.size]; omega
    obtain ⟨l1, l2⟩ := pcsA_tx l ((if acc = [] then [] else acc ++ [Str.ofString ";"]) ++ pcS s) hx.2 (fun z hz => by
      rcases List.mem_append.mp hz with q | q
      · split at q
        · cases q
        · rcases List.mem_append.mp q with q | q
          · exact h z q
          · rw [List.mem_singleton.mp q]; exact (TX.lit _).up (by decide)
      · exact s1 z q)
    refine ⟨by simpa only [pcsA] using l1, ?_⟩
    simp only [pcsA]
    have : (if acc = [] then [] else acc ++ [Str.ofString ";"] : List Str).length ≤ acc.length + 1 := by split <;> simp
    rw [List.length_append] at l2
    simp only [sizes]
    omega
end
/-! joined -/
theorem jl_app {p : List Nat} : ∀ {x y : List (List Nat)}, x ≠ [] → y ≠ [] → joinL p (x ++ y) = joinL p x ++ (p ++ joinL p y)
  | [a], b :: y, _, _ => rfl
  | a :: c :: x, y, _, hy => by
    show a ++ (p ++ joinL p (c :: x ++ y)) = (a ++ (p ++ joinL p (c :: x))) ++ (p ++ joinL p y)
    rw [jl_app (by simp) hy]
    simp only [List.append_assoc]
  | [], _, h, _ => absurd rfl h
  | [a], [], _, h => absurd rfl h
/-- the pieces joined, as signs -/
def jp (l : List Str) : List Nat := joinL [32] (l.map tl)
theorem jp_app {x y : List Str} (hx : x ≠ []) (hy : y ≠ []) : jp (x ++ y) = jp x ++ (32 :: jp y) := by
  unfold jp
  rw [List.map_append, jl_app (by simpa using hx) (by simpa using hy)]
  rfl
theorem pcS_ne (s : Stp) : pcS s ≠ [] := by cases s <;> simp [pcS]
theorem pcsA_app : ∀ (l : List Stp) (acc : List Str), acc ≠ [] → l ≠ [] → pcsA acc l = acc ++ ([Str.ofString ";"] ++ pcsA [] l)
  | [], acc, _, h => absurd rfl h
  | [s], acc, h, _ => by simp [pcsA, h]
  | s :: q :: l, acc, h, _ => by
    have e1 : pcsA acc (s :: q :: l) = pcsA ((acc ++ [Str.ofString ";"]) ++ pcS s) (q :: l) := by
      show pcsA ((if acc = [] then [] else acc ++ [Str.ofString ";"]) ++ pcS s) (q :: l) = _
      rw [if_neg h]
    have e2 : pcsA [] (s :: q :: l) = pcsA (pcS s) (q :: l) := by
      show pcsA ((if ([] : List Str) = [] then [] else _) ++ pcS s) (q :: l) = _
      rw [if_pos rfl, List.nil_append]
    rw [e1, e2, pcsA_app (q :: l) _ (by simp [pcS_ne]) (by simp), pcsA_app (q :: l) (pcS s) (pcS_ne s) (by simp)]
    simp only [List.append_assoc]
theorem pcs_cons (s : Stp) {l : List Stp} (h : l ≠ []) : pcs (s :: l) = pcS s ++ ([Str.ofString ";"] ++ pcs l) := by
  have e2 : pcsA [] (s :: l) = pcsA (pcS s) l := by
    show pcsA ((if ([] : List Str) = [] then [] else _) ++ pcS s) l = _
    rw [if_pos rfl, List.nil_append]
  unfold pcs
  rw [e2, pcsA_app l _ (pcS_ne s) h]
theorem pcs_one (s : Stp) : pcs [s] = pcS s := by simp [pcs, pcsA]
theorem pcs_ne {l : List Stp} (h : l ≠ []) : pcs l ≠ [] := by
  match l, h with
  | [s], _ => rw [pcs_one]; exact pcS_ne s
  | s :: q :: l, _ => rw [pcs_cons s (by simp)]; simp
theorem sts_cons (s : Stp) {l : List Stp} (h : l ≠ []) : tl (stepsT (s :: l)) = tl (stT s) ++ ([32, 59, 32] ++ tl (stepsT l)) := by
  match l, h with
  | q :: l, _ =>
    unfold stepsT
    rw [join_eq, join_eq, tl_join, tl_join]
    rfl
theorem stT_ne (s : Stp) : tl (stT s) ≠ [] := by
  cases s with
  | line sc k f => simp only [stT, setT, emp_app, tl_append]; intro z; have := congrArg List.length z; simp only [List.length_append] at this; have e : (tl (Str.ofString "line")).length = 4 := rfl; simp only [List.length_nil] at this; omega
  | slide sc k f => simp only [stT, setT, emp_app, tl_append]; intro z; have := congrArg List.length z; simp only [List.length_append] at this; have e : (tl (Str.ofString "slide")).length = 5 := rfl; simp only [List.length_nil] at this; omega
  | read sc z => simp only [stT, emp_app, tl_append]; intro z; have := congrArg List.length z; simp only [List.length_append] at this; have e : (tl (Str.ofString "read ")).length = 5 := rfl; simp only [List.length_nil] at this; omega
  | tr a b => simp only [stT, tl_append]; intro z; have := congrArg List.length z; simp only [List.length_append] at this; have e : (tl (Str.ofString "try { ")).length = 6 := rfl; simp only [List.length_nil] at this; omega
theorem stepsT_ne {l : List Stp} (h : l ≠ []) : stepsT l ≠ Str.ofString "" := by
  intro z
  have e : tl (stepsT l) = [] := by rw [z]; rfl
  match l, h with
  | [s], _ =>
    refine stT_ne s ?_
    have : tl (stepsT [s]) = tl (stT s) := by unfold stepsT; rw [join_eq, tl_join]; rfl
    rw [← this]; exact e
  | s :: q :: l, _ =>
    rw [sts_cons s (by simp)] at e
    exact stT_ne s (List.append_eq_nil_iff.mp e).1
mutual
theorem jpS : ∀ s : Stp, StX s → jp (pcS s) = tl (stT s)
  | .line sc k f, _ => by
    simp only [pcS, stT, setT, emp_app, tl_append, jp, List.map_cons, List.map_nil, joinL]
    simp only [List.append_assoc]
    rfl
  | .slide sc k f, _ => by
    simp only [pcS, stT, setT, emp_app, tl_append, jp, List.map_cons, List.map_nil, joinL]
    simp only [List.append_assoc]
    rfl
  | .read sc z, _ => by
    simp only [pcS, stT, emp_app, tl_append, jp, List.map_cons, List.map_nil, joinL]
    simp only [List.append_assoc]
    rfl
  | .tr a b, hx => by
    simp only [StX] at hx
    have ha := jpL a hx.1.1 hx.2
    have na := pcs_ne hx.2
    have ea : Txt.join (Str.ofString " ; ") (stTs a) = stepsT a := rfl
    have eb : Txt.join (Str.ofString " ; ") (stTs b) = stepsT b := rfl
    by_cases hb : b = []
    · subst hb
      have e : pcS (.tr a []) = [Str.ofString "try", Str.ofString "{"] ++ (pcs a ++ [Str.ofString "}", Str.ofString "else", Str.ofString "{", Str.ofString "}"]) := by
        simp [pcS, pcs, pcsA]
      have e2 : stepsT [] = Str.ofString "" := by unfold stepsT; rw [join_eq]; rfl
      rw [e, jp_app (by simp) (by simp), jp_app na (by simp), ha]
      simp only [stT, ea, eb, e2, reT, if_true, tl_append]
      rw [List.append_assoc]
      rfl
    · have hb2 := jpL b hx.1.2 hb
      have nb := pcs_ne hb
      have e : pcS (.tr a b) = [Str.ofString "try", Str.ofString "{"] ++ (pcs a ++ ([Str.ofString "}", Str.ofString "else", Str.ofString "{"] ++ (pcs b ++ [Str.ofString "}"]))) := by
        simp [pcS, pcs]
      rw [e, jp_app (by simp) (by simp), jp_app na (by simp), jp_app (by simp) (by simp), jp_app nb (by simp), ha, hb2]
      simp only [stT, ea, eb, reT, if_neg (stepsT_ne hb), tl_append]
      simp only [List.append_assoc]
      rfl
theorem jpL : ∀ l : List Stp, StXs l → l ≠ [] → jp (pcs l) = tl (stepsT l)
  | [], _, h => absurd rfl h
  | [s], hx, _ => by
    simp only [StXs] at hx
    rw [pcs_one, jpS s hx.1]
    unfold stepsT
    rw [join_eq, tl_join]
    rfl
  | s :: q :: l, hx, _ => by
    have hx' : StX s ∧ StXs (q :: l) := by simpa only [StXs] using hx
    rw [pcs_cons s (by simp), jp_app (pcS_ne s) (by simp), jp_app (by simp) (pcs_ne (by simp)), jpS s hx'.1, jpL (q :: l) hx'.2 (by simp), sts_cons s (by simp)]
    rfl
end
theorem pieces_ok {l : List Stp} (hx : StXs l) (h : l ≠ []) : Txt.join (Str.ofString " ") (pcs l) = stepsT l := by
  refine ext_tl ?_
  rw [← jpL l hx h, join_eq, tl_join]
  rfl
theorem stx_of_scp {r : Rl} {xs ns : List Str} (hr : ∀ q ∈ r.b ++ r.s, TX 3 q.n ∧ q.t.natAbs ≤ 3) (hn : ∀ z ∈ xs ++ ns, TX 5 z) {k k' : List Str} {l : List Stp} (h : Scp r xs ns k l k') : (∀ z ∈ k, TX 5 z) → StXs l ∧ ∀ z ∈ k', TX 5 z := by
  have fg : ∀ {k : List Str} {i : Int} {f : Fig}, (∀ z ∈ k, TX 5 z) → FigOk (xs ++ k) i f → FigX f := by
    intro k i f hk q
    cases f with
    | nm z =>
      rcases List.mem_append.mp q with q | q
      · exact hn z (List.mem_append_left _ q)
      · exact hk z q
    | mk p =>
      have q' : Mant p := q
      have h1 := q'.lo
      have h2 := q'.hi
      have h3 := q'.top
      exact ⟨by omega, by omega⟩
    | lft => trivial
    | rgt => trivial
  induction h with
  | nil => exact fun hk => ⟨trivial, hk⟩
  | @set k k' s l hs _ ih =>
    intro hk
    obtain ⟨h1, h2⟩ := ih hk
    refine ⟨?_, h2⟩
    simp only [StXs]
    refine ⟨?_, h1⟩
    cases s with
    | line sc i f =>
      obtain ⟨q, hq, rfl, g1, g2, g3⟩ := hs
      obtain ⟨t1, t2⟩ := hr q hq
      exact ⟨t1, by omega, fg hk g3⟩
    | slide sc i f =>
      obtain ⟨q, hq, rfl, g1, g2, g3⟩ := hs
      obtain ⟨t1, t2⟩ := hr q (List.mem_append_right _ hq)
      exact ⟨t1, by omega, fg hk g3⟩
    | _ => exact hs.elim
  | @read k k' sc z l hs hz _ _ ih =>
    intro hk
    obtain ⟨h1, h2⟩ := ih fun y hy => by
      rcases List.mem_append.mp hy with q | q
      · exact hk y q
      · rw [List.mem_singleton.mp q]; exact hn z (List.mem_append_right _ hz)
    obtain ⟨q, hq, rfl⟩ := hs
    refine ⟨?_, h2⟩
    simp only [StXs, StX]
    exact ⟨⟨(hr q hq).1, hn z (List.mem_append_right _ hz)⟩, h1⟩
  | tr hne _ _ _ ih1 ih2 ih3 =>
    intro hk
    obtain ⟨a1, a2⟩ := ih1 hk
    obtain ⟨b1, b2⟩ := ih2 hk
    obtain ⟨c1, c2⟩ := ih3 fun z hz => a2 z (List.mem_filter.mp hz).1
    refine ⟨?_, c2⟩
    simp only [StXs, StX]
    exact ⟨⟨⟨a1, b1⟩, hne⟩, c1⟩
theorem plT_eq {sc : Str} {k : Int} (h : ¬ k = 0) : plT sc k = (sc ++ Str.ofString ".") ++ Str.ofString (toString k) := by
  rw [plT, if_neg h, emp_app]
theorem l_strs {xs ys : List Str} (h : xs.length + ys.length ≤ 1000) : binD .add (.lst (xs.map .str)) (.lst (ys.map .str)) = some (.lst ((xs ++ ys).map .str)) := by
  rw [List.map_append]
  exact b_addL (by rw [List.length_map, List.length_map, sizeLine_eq]; omega)
theorem l_str2 {xs : List Str} {a b : Str} (h : xs.length ≤ 990) : binD .add (.lst (xs.map .str)) (.lst [.str a, .str b]) = some (.lst ((xs ++ [a, b]).map .str)) := l_strs (ys := [a, b]) (by simp; omega)
theorem l_str3 {xs : List Str} {a b c : Str} (h : xs.length ≤ 990) : binD .add (.lst (xs.map .str)) (.lst [.str a, .str b, .str c]) = some (.lst ((xs ++ [a, b, c]).map .str)) := l_strs (ys := [a, b, c]) (by simp; omega)
theorem law_text_of (ht : t "_law_text" = some d_law_text) (st : S) {m : Nat} {l : List Stp} (hz : sizes l ≤ 100) (hx : StXs l)
    (ih : ∀ a b, Stp.tr a b ∈ l → callN C t m "_law_text" [.tup (a.map stD)] st = .ok (.lst ((pcs a).map .str)) st ∧ callN C t m "_law_text" [.tup (b.map stD)] st = .ok (.lst ((pcs b).map .str)) st) :
    callN C t (m + 1) "_law_text" [.tup (l.map stD)] st = .ok (.lst ((pcs l).map .str)) st := by
  suffices h : W (callN C t (m + 1) "_law_text" [.tup (l.map stD)] st) fun d s => d = .lst ((pcs l).map .str) ∧ s = st by
    obtain ⟨d, s, e, rfl, rfl⟩ := h
    exact e
  refine W_run ht rfl ?_
  simp only [d_law_text]
  walk_at "p"
  refine B_for (fun xs env s => ∃ (acc : List Str) (q : List Stp) (s2 s3 : Sl), xs = q.map stD ∧ env = [.val (.tup (l.map stD)), .own (acc.map .str), s2, s3] ∧ s = st ∧ pcsA acc q = pcs l ∧ (∀ z ∈ acc, TX 43 z) ∧ acc.length + 8 * sizes q ≤ 900 ∧ (∀ y ∈ q, y ∈ l))
    ⟨[], l, _, _, rfl, rfl, rfl, rfl, by simp, by simp; omega, fun _ h => h⟩ ?_ ?_
  · rintro x xs env s ⟨acc, q, s2, s3, e, rfl, rfl, hp, ht, hl, hm⟩
    match q, e with
    | y :: q, e =>
      simp only [List.map_cons, List.cons.injEq] at e
      obtain ⟨rfl, rfl⟩ := e
      have hy := hx.mem y (hm y List.mem_cons_self)
      have hm' : ∀ z ∈ q, z ∈ l := fun z h => hm z (List.mem_cons_of_mem _ h)
      obtain ⟨p1, p2⟩ := pcS_tx y hy
      simp only [sizes] at hl
      have z1 := eq_nil fun z hz => (ht z hz).ok
      have yp : 1 ≤ y.size := by cases y <;> simp [Stp.size]; omega
      simp only [d_law_text_b1]
      walk_at "p"
      rw [z1]
      walk_at "p"
      have hp' : pcsA ((if acc = [] then [] else acc ++ [Str.ofString ";"]) ++ pcS y) q = pcs l := by rw [← hp]; rfl
      refine B_cut (fun env s1 => s1 = s ∧ ∃ ac : List Str, env = [.val (.tup (l.map stD)), .own (ac.map .str), .val (stD y), s3] ∧ ac = (if acc = [] then [] else acc ++ [Str.ofString ";"])) ?_ ?_
      · by_cases ha : acc = []
        · simp only [ha]
          walk_at "p"
          exact B.nx ⟨rfl, [], rfl, by simp⟩
        · simp only [ha]
          walk_at "p"
          rw [if_pos (by rw [List.length_map]; omega)]
          walk_at "p"
          exact B.nx ⟨rfl, acc ++ [Str.ofString ";"], by simp, by simp⟩
      · rintro env s1 ⟨rfl, ac, rfl, hac⟩
        have hacl : ac.length ≤ acc.length + 1 := by rw [hac]; split <;> simp
        rw [← hac] at hp'
        have hact : ∀ z ∈ ac, TX 43 z := by
          intro z hz
          rw [hac] at hz
          split at hz
          · cases hz
          · rcases List.mem_append.mp hz with q | q
            · exact ht z q
            · rw [List.mem_singleton.mp q]; exact (TX.lit _).up (by decide)
        clear hac hp z1
        have fin : ∀ (env : DE) (s3' : Sl), env = [.val (.tup (l.map stD)), .own ((ac ++ pcS y).map .str), .val (stD y), s3'] →
            ∃ (acc : List Str) (q' : List Stp) (s2 s3 : Sl), q.map stD = q'.map stD ∧ env = [.val (.tup (l.map stD)), .own (acc.map .str), s2, s3] ∧ s1 = s1 ∧ pcsA acc q' = pcs l ∧ (∀ z ∈ acc, TX 43 z) ∧ acc.length + 8 * sizes q' ≤ 900 ∧ (∀ y ∈ q', y ∈ l) := by
          intro env s3' e
          refine ⟨ac ++ pcS y, q, _, _, rfl, e, rfl, hp', fun z hz => ?_, ?_, hm'⟩
          · rcases List.mem_append.mp hz with q | q
            · exact hact z q
            · exact p1 z q
          · rw [List.length_append]; omega
        cases y with
        | line sc k f =>
          simp only [StX] at hy
          obtain ⟨g1, g2, g3⟩ := hy
          have t1 := g1.app (TX.lit ".")
          have l1 : ".".length = 1 := by decide
          have l2 : "/".length = 1 := by decide
          rw [stD, pcS] at fin
          rw [stD]
          walk_at "p"
          rw [sq_assoc, sq_assoc]
          refine B_cut (fun env s => env = [.val (.tup (l.map stD)), .own (ac.map .str), .val (.tup [.str (Str.ofString "line"), .str sc, .int k, figD f]), .val (.str (fgT f))] ∧ s = s1) ?_ ?_
          · cases f with
            | mk p =>
              have u1 := (TX.int g3.1).app (TX.lit "/")
              simp only [figD, pP, fgT, emp_app]
              walk_at "p"
              rw [str_i g3.1]
              walk_at "p"
              rw [b_ss (TX.int g3.1) (TX.lit "/") (by omega)]
              walk_at "p"
              rw [str_i g3.2]
              walk_at "p"
              rw [b_ss u1 (TX.int g3.2) (by omega)]
              walk_at "p"
              exact B.nx ⟨rfl, rfl⟩
            | nm z =>
              simp only [figD, fgT]
              walk_at "p"
              exact B.nx ⟨rfl, rfl⟩
            | lft =>
              simp only [figD, fgT]
              walk_at "p"
              exact B.nx ⟨rfl, rfl⟩
            | rgt =>
              simp only [figD, fgT]
              walk_at "p"
              exact B.nx ⟨rfl, rfl⟩
          · rintro env s2 ⟨rfl, rfl⟩
            walk_at "p"
            by_cases hk : k = 0
            · subst hk
              walk_at "p"
              rw [if_pos (by rw [List.length_map]; omega)]
              walk_at "p"
              exact B.nx (fin _ _ (by simp only [plT, List.map_append, List.map_cons, List.map_nil, if_true]; rfl))
            · simp only [hk]
              walk_at "p"
              rw [b_ss g1 (TX.lit ".") (by omega)]
              walk_at "p"
              rw [str_i g2]
              walk_at "p"
              rw [b_ss t1 (TX.int g2) (by omega)]
              walk_at "p"
              rw [if_pos (by rw [List.length_map]; omega)]
              walk_at "p"
              exact B.nx (fin _ _ (by simp only [plT_eq hk, List.map_append, List.map_cons, List.map_nil]; rfl))
        | slide sc k f =>
          simp only [StX] at hy
          obtain ⟨g1, g2, g3⟩ := hy
          have t1 := g1.app (TX.lit ".")
          have l1 : ".".length = 1 := by decide
          have l2 : "/".length = 1 := by decide
          rw [stD, pcS] at fin
          rw [stD]
          walk_at "p"
          rw [sq_assoc, sq_assoc]
          refine B_cut (fun env s => env = [.val (.tup (l.map stD)), .own (ac.map .str), .val (.tup [.str (Str.ofString "slide"), .str sc, .int k, figD f]), .val (.str (fgT f))] ∧ s = s1) ?_ ?_
          · cases f with
            | mk p =>
              have u1 := (TX.int g3.1).app (TX.lit "/")
              simp only [figD, pP, fgT, emp_app]
              walk_at "p"
              rw [str_i g3.1]
              walk_at "p"
              rw [b_ss (TX.int g3.1) (TX.lit "/") (by omega)]
              walk_at "p"
              rw [str_i g3.2]
              walk_at "p"
              rw [b_ss u1 (TX.int g3.2) (by omega)]
              walk_at "p"
              exact B.nx ⟨rfl, rfl⟩
            | nm z =>
              simp only [figD, fgT]
              walk_at "p"
              exact B.nx ⟨rfl, rfl⟩
            | lft =>
              simp only [figD, fgT]
              walk_at "p"
              exact B.nx ⟨rfl, rfl⟩
            | rgt =>
              simp only [figD, fgT]
              walk_at "p"
              exact B.nx ⟨rfl, rfl⟩
          · rintro env s2 ⟨rfl, rfl⟩
            walk_at "p"
            by_cases hk : k = 0
            · subst hk
              walk_at "p"
              rw [if_pos (by rw [List.length_map]; omega)]
              walk_at "p"
              exact B.nx (fin _ _ (by simp only [plT, List.map_append, List.map_cons, List.map_nil, if_true]; rfl))
            · simp only [hk]
              walk_at "p"
              rw [b_ss g1 (TX.lit ".") (by omega)]
              walk_at "p"
              rw [str_i g2]
              walk_at "p"
              rw [b_ss t1 (TX.int g2) (by omega)]
              walk_at "p"
              rw [if_pos (by rw [List.length_map]; omega)]
              walk_at "p"
              exact B.nx (fin _ _ (by simp only [plT_eq hk, List.map_append, List.map_cons, List.map_nil]; rfl))
        | read sc z =>
          rw [stD, pcS] at fin
          rw [stD]
          walk_at "p"
          have e : biD s1 .list (.tup [.str (Str.ofString "read"), .str sc, .str z]) = some (.lst [.str (Str.ofString "read"), .str sc, .str z]) := rfl
          rw [e]
          walk_at "p"
          rw [if_pos (by rw [List.length_map]; omega)]
          walk_at "p"
          exact B.nx (fin _ _ (by simp only [List.map_append, List.map_cons, List.map_nil]; rfl))
        | tr a b =>
          obtain ⟨ia, ib⟩ := ih a b (hm _ List.mem_cons_self)
          simp only [StX] at hy
          obtain ⟨-, na⟩ := pcsA_tx a [] hy.1.1 (by simp)
          obtain ⟨-, nb⟩ := pcsA_tx b [] hy.1.2 (by simp)
          have na' : (pcs a).length ≤ 8 * sizes a := by simpa [pcs] using na
          have nb' : (pcs b).length ≤ 8 * sizes b := by simpa [pcs] using nb
          simp only [Stp.size] at hl
          rw [stD, stDs_eq, stDs_eq, pcS] at fin
          rw [stD, stDs_eq, stDs_eq]
          walk_at "p"
          rw [l_str2 (xs := ac) (by omega)]
          walk_at "p"
          rw [ia]
          walk_at "p"
          rw [l_strs (xs := ac ++ [Str.ofString "try", Str.ofString "{"]) (by simp; omega)]
          walk_at "p"
          rw [l_str3 (xs := ac ++ [Str.ofString "try", Str.ofString "{"] ++ pcs a) (by simp; omega)]
          walk_at "p"
          rw [ib]
          walk_at "p"
          rw [l_strs (xs := ac ++ [Str.ofString "try", Str.ofString "{"] ++ pcs a ++ [Str.ofString "}", Str.ofString "else", Str.ofString "{"]) (by simp; omega)]
          walk_at "p"
          rw [if_pos (by rw [List.length_map]; simp; omega)]
          walk_at "p"
          exact B.nx (fin _ _ (by simp only [List.map_append, List.map_cons, List.map_nil, List.append_assoc]; rfl))
  · rintro env s ⟨acc, q, s2, s3, e, rfl, rfl, hp, _⟩
    have : q = [] := by simpa using e.symm
    subst this
    simp only [pcsA] at hp
    subst hp
    walk_at "p"
    exact B.rt ⟨rfl, rfl⟩
theorem law_text_ok (ht : t "_law_text" = some d_law_text) (st : S) : ∀ (dep n : Nat) (l : List Stp), depths l ≤ dep → sizes l ≤ 100 → StXs l → callN C t (n + dep + 1) "_law_text" [.tup (l.map stD)] st = .ok (.lst ((pcs l).map .str)) st := by
  intro dep
  induction dep with
  | zero =>
    intro n l hd hz hx
    refine law_text_of ht st hz hx fun a b hm => ?_
    have := (size_mem hm).2
    simp only [Stp.depth] at this
    omega
  | succ dep ih =>
    intro n l hd hz hx
    refine law_text_of ht st hz hx fun a b hm => ?_
    have h1 := size_mem hm
    simp only [Stp.depth, Stp.size] at h1
    have h2 := hx.mem _ hm
    simp only [StX] at h2
    exact ⟨ih n a (by omega) (by omega) h2.1.1, ih n b (by omega) (by omega) h2.1.2⟩
theorem steps_text_ok (tt : TT t) (st : S) (dep n : Nat) (l : List Stp) (hd : depths l ≤ dep) (hz : sizes l ≤ 100) (hx : StXs l) : callN C t (n + 2 * dep + 3) "steps_text" [.tup (l.map stD)] st = .ok (.str (stepsT l)) st :=
  steps_of tt st hz hx fun s hs => step_text_ok tt st dep n s (by have := (size_mem hs).2; omega) (by have := (size_mem hs).1; omega) (hx.mem s hs)
theorem repr_tx {B : Nat} {z : Str} {s : S} (h : TX B z) (hb : B ≤ 100000) : biD s .repr (.str z) = some (.str (PyData.shown (.str z))) := by
  have e : (PyData.shown (.str z)) = reprText z := by simp only [PyData.shown]
  have l := PySem.StrLaws.reprText_len z fun c hc => Nat.lt_trans (h.2 c hc) (by decide)
  have h1 := h.1
  show (if _ then _ else _) = _
  refine if_pos ⟨⟨rfl, by simp [PyData.depth]⟩, rfl, ?_⟩
  rw [e, sizeLine_eq]
  omega
theorem NmOk.tx {c : Nat} {z : Str} (h : NmOk c z) (hc : c < 26) : TX 5 z := by
  refine ⟨by have := h.len; omega, fun a ha => ?_⟩
  obtain ⟨l, rfl, _, h2⟩ := h
  have ha' : a ∈ (97 + c) :: l := by simpa using ha
  rcases List.mem_cons.mp ha' with e | e
  · omega
  · have := h2 a e; omega
theorem NmOk.ne {c d : Nat} {y z : Str} (h : NmOk c y) (k : NmOk d z) (e : c ≠ d) : y ≠ z := by
  rintro rfl
  obtain ⟨l, e1, _⟩ := h
  obtain ⟨m, e2, _⟩ := k
  rw [e1] at e2
  have := congrArg (fun z : Str => z.cps.toList) e2
  simp only [List.cons.injEq] at this
  omega
theorem ScOk.tx {c : Nat} {s : Sca} (h : ScOk c s) (hc : c < 26) : TX 3 s.n := by
  refine ⟨h.len, fun a ha => ?_⟩
  obtain ⟨l, e, h1⟩ := h.n
  rw [e] at ha
  have ha' : a ∈ (65 + c) :: l := by simpa using ha
  rcases List.mem_cons.mp ha' with e | e
  · omega
  · rcases h1 with rfl | rfl | rfl
    · cases e
    · rw [List.mem_singleton.mp e]; decide
    · simp only [List.mem_cons, List.not_mem_nil, or_false] at e
      omega
theorem ScAll.tx {first : Int} : ∀ {ks : List Int} {ss : List Sca}, ScAll first ks ss → ∀ s ∈ ss, TX 3 s.n ∧ s.t.natAbs ≤ 3
  | [], [], _, s, hs => nomatch hs
  | k :: ks, s :: ss, h, r, hr => by
    rcases List.mem_cons.mp hr with e | e
    · rw [e]
      have h1 := Int.emod_nonneg (first + 5 * k) (show (26 : Int) ≠ 0 by decide)
      have h2 := Int.emod_lt_of_pos (first + 5 * k) (show (0 : Int) < 26 by decide)
      have t1 := h.1.t1
      have t2 := h.1.t2
      exact ⟨h.1.tx (by omega), by omega⟩
    · exact ScAll.tx h.2 r e
  | [], _ :: _, h, _, _ => h.elim
  | _ :: _, [], h, _, _ => h.elim
theorem RlOk.tx {r : Rl} (h : RlOk r) : ∀ q ∈ r.b ++ r.s, TX 3 q.n ∧ q.t.natAbs ≤ 3 := by
  obtain ⟨f, m, _, _, _, _, q⟩ := h.ex
  exact q.tx
/-- drawn names: texts, all unlike -/
theorem Names.facts {xs : List Str} (h : Names xs) : ∃ z0 z1 z2 z3 z4 : Str, xs = [z0, z1, z2, z3, z4] ∧ (∀ z ∈ xs, TX 5 z) ∧ xs.Nodup := by
  obtain ⟨c, z0, z1, z2, z3, z4, h0, h1, rfl, n0, n1, n2, n3, n4⟩ := h.ex
  refine ⟨z0, z1, z2, z3, z4, rfl, ?_, ?_⟩
  · intro z hz
    simp only [List.mem_cons, List.not_mem_nil, or_false] at hz
    rcases hz with rfl | rfl | rfl | rfl | rfl
    · exact n0.tx (by omega)
    · exact n1.tx (by omega)
    · exact n2.tx (by omega)
    · exact n3.tx (by omega)
    · exact n4.tx (by omega)
  · simp only [List.nodup_cons, List.mem_cons, List.not_mem_nil, or_false, not_or, not_false_eq_true, List.nodup_nil, and_true]
    exact ⟨⟨n0.ne n1 (by omega), n0.ne n2 (by omega), n0.ne n3 (by omega), n0.ne n4 (by omega)⟩, ⟨n1.ne n2 (by omega), n1.ne n3 (by omega), n1.ne n4 (by omega)⟩, ⟨n2.ne n3 (by omega), n2.ne n4 (by omega)⟩, n3.ne n4 (by omega)⟩
end
end PV

set_option Elab.async false
set_option linter.all false
set_option maxRecDepth 100000
set_option maxHeartbeats 1000000
set_option exponentiation.threshold 30000
set_option pp.maxSteps 600
set_option pp.deepTerms false
set_option pp.deepTerms.threshold 6
namespace PV
open PySem PySem.Spec PyProof.Rows L2
local macro_rules | `(tactic| walk_at "pv") => `(tactic| simp only [e_var, e_int, e_str, e_bl, e_non, e_glob, e_tup, e_lst, e_lstM, e_dic0, e_bin, e_neg, e_not, e_and, e_or, e_cmp, e_chain, e_isN, e_notN, e_ifx, e_sub, e_slice, e_call, e_bi, e_isi, e_comp, es_nil, es_cons, o_no, o_some, t_val, t_and, t_or, t_not, t_cmp, t_chain, t_isN, t_notN, kCons_ok, kCons_exc, kCons1_ok, kCons1_exc, kTup_ok, kTup_exc, kLst_ok, kLst_exc, kLstM_ok, kCall_ok, kCall_exc, kBin_ok, kBin_exc, kBin1_ok, kBin1_exc, kNeg_ok, kNot_ok, kNot_exc, kAnd_ok, kAnd_exc, kOr_ok, kOr_exc, kCmp_ok, kCmp_exc, kCmp1_ok, kCmp1_exc, kCh_ok, kCh1_ok, kCh2_some, kIf_ok, kIf_exc, kSub_ok, kSub_exc, kSub1_ok, kSub1_exc, kSl_ok, kSl1_ok, kSl2_ok, kBi_ok, kBi_exc, kIsi_ok, kTru_bl, kTru_exc, kTAnd_ok, kTAnd_exc, kTOr_ok, kTOr_exc, kTNot_ok, kTNot_exc, kTB_ok, kTB_exc, kInt_ok, kIsN_non, kNotN_non, ofO_some, ss_nil, ss_cons, s_expr, s_set, s_par, s_asg, s_putL, s_ownNew, s_ownApp, s_freeze, s_ret, s_retN, s_ite, s_whl, s_forN, s_forR, s_brk, s_cont, s_pass, s_raise, s_try, sq_nx, sq_rt, sq_bk, sq_ct, sq_exc, kExpr_ok, kExpr_exc, kSet_ok, kSet_exc, kPar_ok, kPar_exc, kPar1_ok, kPar1_exc, kAsg_ok, kAsg_exc, kPut_ok, kPut1_ok, kPut2_ok, kOwn_ok, kApp_ok, kRet_ok, kRet_exc, kSIf_ok, kSIf_exc, kFor_tup, kFor_lst, kRun_nx, kRun_rt, kRun_exc, kTry_ok, kTry_exc, nox_ok, eq_ii, eq_ss, si0, si1, si2, si3, si4, si5, si6, si7, si8, si9, si10, si11, si12, si13, si14, si15, b_add, b_sub, c_lt, c_le, c_gt, c_ge, eq_ii, eq_ss, c_eq, c_ne, k_abs, k_int, k_intB, k_lenT, k_lenL, k_lenS, x_tup, x_lst, gi0, si0, gi1, si1, gi2, si2, gi3, si3, gi4, si4, gi5, si5, gi6, si6, gi7, si7, gi8, si8, gi9, si9, gi10, si10, gi11, si11, gi12, si12, gi13, si13, gi14, si14, gi15, si15, ri0, ri1, ri2, ri3, ri4, ri5, ri6, ri7, ri8, ri9, ri10, ri11, ai0, ai1, ai2, ai3, ai4, ai5, ai6, ai7, ai8, ai9, List.map_cons, List.map_nil, List.cons_append, List.nil_append, List.append_nil, Option.map_some, R.bind_ok, Bool.not_true, Bool.not_false, if_true, if_false, Bool.false_eq_true, decide_true, decide_false, Nat.reduceSub, bindT, bindTs, List.length_cons, List.length_nil, sizeLine_eq, Nat.reduceAdd, Nat.reduceLeDiff, Nat.zero_add, decide_eq_true_eq, x_obj0, put0, put1, put2, ic0, ic1, ic2, ic3, ic4, ic5, ic6, ic7, ic8, ic9, ic10, ic11, ic12, ic13, ic14, ic15, ic16, ic17, ic18, ic19, ic20, ic21, ic22, ic23, Int.reduceEq, Int.reduceLT, Int.reduceLE, Int.reduceNeg, vB_var, vB_int, vB_str, vB_bl, vB_non, vB_glob, vB_tup, vB_lst, vB_dic0, vB_bin, vB_neg, vB_not, vB_and, vB_or, vB_cmp, vB_chain, vB_isN, vB_notN, vB_ifx, vB_sub, vB_slice, vB_call, vB_bi, vB_isi, vB_comp, vB_fmt, vB_fstr, vB_join, vB_own, rs_int, rs_str, rs_bl, rs_non, rs_tup, rs_lst, rs_dic, rs_scr, kFmt_ok, kJoin_ok, kJ_ok, kListM_ok, e_listM, e_fmt, e_fstr, e_join, j_nil, j_cons, kCmpC_ok, kCmpC_exc, s_ownAdd, s_appL, kOAdd_ok, kOAdd1_ok, addF_ok, sw_line_slide, sw_line_read, sw_line_try, sw_line_left, sw_line_right, sw_slide_line, sw_slide_read, sw_slide_try, sw_slide_left, sw_slide_right, sw_read_line, sw_read_slide, sw_read_try, sw_read_left, sw_read_right, sw_try_line, sw_try_slide, sw_try_read, sw_try_left, sw_try_right, sw_left_line, sw_left_slide, sw_left_read, sw_left_try, sw_left_right, sw_right_line, sw_right_slide, sw_right_read, sw_right_try, sw_right_left, it_lst, it_tup, kAppL_obj, kAppL1_ok, appF_ok, e_compI, cstep_ap, cst1_some, kCC_ok, kSome_ok, c_no, c_some, kCompI_ok, kCompE_ok, e_sset, e_lset, e_allL, i_seq, i_rng, i_rng2, i_enum, i_zip, kSeq_tup, kSeq_lst, kSeq_str, kSeq_exc, kRng2_ok, kEnum_lst, kZip_ok, kZip1_lst, vB_compI, vB_sset, vB_lset, vB_allL, rs_cdic, s_forI, s_ownExt, kForI_ok, kForI_exc, lstep_ap, lst1_some, kExt_lst, c_in, c_nin, s_aug, kAug_ok, au_add, au_sub, is_non_int, is_non_bool, is_non_str, is_non_tuple, is_non_list, is_non_dict, is_bl_int, is_bl_bool, is_bl_str, is_bl_tuple, is_bl_list, is_bl_dict, is_int_int, is_int_bool, is_int_str, is_int_tuple, is_int_list, is_int_dict, is_str_int, is_str_bool, is_str_str, is_str_tuple, is_str_list, is_str_dict, is_tup_int, is_tup_bool, is_tup_str, is_tup_tuple, is_tup_list, is_tup_dict, is_lst_int, is_lst_bool, is_lst_str, is_lst_tuple, is_lst_list, is_lst_dict, is_dic_int, is_dic_bool, is_dic_str, is_dic_tuple, is_dic_list, is_dic_dict, e_fld, e_prop, e_mcall, kFld_ok, kPrp_ok, kPrp1_some, kMth_ok, kMth1_some, kMth2_ok, rnox_ok, vB_fld, vB_prop, vB_mcall, s_setF, kSetF_ok, setFF_self, putD_nil])
local macro_rules | `(tactic| walk_at "p") => `(tactic| try simp only [e_var, e_int, e_str, e_bl, e_non, e_glob, e_tup, e_lst, e_lstM, e_dic0, e_bin, e_neg, e_not, e_and, e_or, e_cmp, e_chain, e_isN, e_notN, e_ifx, e_sub, e_slice, e_call, e_bi, e_isi, e_comp, es_nil, es_cons, o_no, o_some, t_val, t_and, t_or, t_not, t_cmp, t_chain, t_isN, t_notN, kCons_ok, kCons_exc, kCons1_ok, kCons1_exc, kTup_ok, kTup_exc, kLst_ok, kLst_exc, kLstM_ok, kCall_ok, kCall_exc, kBin_ok, kBin_exc, kBin1_ok, kBin1_exc, kNeg_ok, kNot_ok, kNot_exc, kAnd_ok, kAnd_exc, kOr_ok, kOr_exc, kCmp_ok, kCmp_exc, kCmp1_ok, kCmp1_exc, kCh_ok, kCh1_ok, kCh2_some, kIf_ok, kIf_exc, kSub_ok, kSub_exc, kSub1_ok, kSub1_exc, kSl_ok, kSl1_ok, kSl2_ok, kBi_ok, kBi_exc, kIsi_ok, kTru_bl, kTru_exc, kTAnd_ok, kTAnd_exc, kTOr_ok, kTOr_exc, kTNot_ok, kTNot_exc, kTB_ok, kTB_exc, kInt_ok, kIsN_non, kNotN_non, ofO_some, ss_nil, ss_cons, s_expr, s_set, s_par, s_asg, s_putL, s_ownNew, s_ownApp, s_freeze, s_ret, s_retN, s_ite, s_whl, s_forN, s_forR, s_brk, s_cont, s_pass, s_raise, s_try, sq_nx, sq_rt, sq_bk, sq_ct, sq_exc, kExpr_ok, kExpr_exc, kSet_ok, kSet_exc, kPar_ok, kPar_exc, kPar1_ok, kPar1_exc, kAsg_ok, kAsg_exc, kPut_ok, kPut1_ok, kPut2_ok, kOwn_ok, kApp_ok, kRet_ok, kRet_exc, kSIf_ok, kSIf_exc, kFor_tup, kFor_lst, kRun_nx, kRun_rt, kRun_exc, kTry_ok, kTry_exc, nox_ok, eq_ii, eq_ss, si0, si1, si2, si3, si4, si5, si6, si7, si8, si9, si10, si11, si12, si13, si14, si15, b_add, b_sub, c_lt, c_le, c_gt, c_ge, eq_ii, eq_ss, c_eq, c_ne, k_abs, k_int, k_intB, k_lenT, k_lenL, k_lenS, x_tup, x_lst, gi0, si0, gi1, si1, gi2, si2, gi3, si3, gi4, si4, gi5, si5, gi6, si6, gi7, si7, gi8, si8, gi9, si9, gi10, si10, gi11, si11, gi12, si12, gi13, si13, gi14, si14, gi15, si15, ri0, ri1, ri2, ri3, ri4, ri5, ri6, ri7, ri8, ri9, ri10, ri11, ai0, ai1, ai2, ai3, ai4, ai5, ai6, ai7, ai8, ai9, List.map_cons, List.map_nil, List.cons_append, List.nil_append, List.append_nil, Option.map_some, R.bind_ok, Bool.not_true, Bool.not_false, if_true, if_false, Bool.false_eq_true, decide_true, decide_false, Nat.reduceSub, bindT, bindTs, List.length_cons, List.length_nil, sizeLine_eq, Nat.reduceAdd, Nat.reduceLeDiff, Nat.zero_add, decide_eq_true_eq, x_obj0, put0, put1, put2, ic0, ic1, ic2, ic3, ic4, ic5, ic6, ic7, ic8, ic9, ic10, ic11, ic12, ic13, ic14, ic15, ic16, ic17, ic18, ic19, ic20, ic21, ic22, ic23, Int.reduceEq, Int.reduceLT, Int.reduceLE, Int.reduceNeg, vB_var, vB_int, vB_str, vB_bl, vB_non, vB_glob, vB_tup, vB_lst, vB_dic0, vB_bin, vB_neg, vB_not, vB_and, vB_or, vB_cmp, vB_chain, vB_isN, vB_notN, vB_ifx, vB_sub, vB_slice, vB_call, vB_bi, vB_isi, vB_comp, vB_fmt, vB_fstr, vB_join, vB_own, rs_int, rs_str, rs_bl, rs_non, rs_tup, rs_lst, rs_dic, rs_scr, kFmt_ok, kJoin_ok, kJ_ok, kListM_ok, e_listM, e_fmt, e_fstr, e_join, j_nil, j_cons, kCmpC_ok, kCmpC_exc, s_ownAdd, s_appL, kOAdd_ok, kOAdd1_ok, addF_ok, sw_line_slide, sw_line_read, sw_line_try, sw_line_left, sw_line_right, sw_slide_line, sw_slide_read, sw_slide_try, sw_slide_left, sw_slide_right, sw_read_line, sw_read_slide, sw_read_try, sw_read_left, sw_read_right, sw_try_line, sw_try_slide, sw_try_read, sw_try_left, sw_try_right, sw_left_line, sw_left_slide, sw_left_read, sw_left_try, sw_left_right, sw_right_line, sw_right_slide, sw_right_read, sw_right_try, sw_right_left, it_lst, it_tup, kAppL_obj, kAppL1_ok, appF_ok, e_compI, cstep_ap, cst1_some, kCC_ok, kSome_ok, c_no, c_some, kCompI_ok, kCompE_ok, e_sset, e_lset, e_allL, i_seq, i_rng, i_rng2, i_enum, i_zip, kSeq_tup, kSeq_lst, kSeq_str, kSeq_exc, kRng2_ok, kEnum_lst, kZip_ok, kZip1_lst, vB_compI, vB_sset, vB_lset, vB_allL, rs_cdic, s_forI, s_ownExt, kForI_ok, kForI_exc, lstep_ap, lst1_some, kExt_lst, c_in, c_nin, s_aug, kAug_ok, au_add, au_sub, is_non_int, is_non_bool, is_non_str, is_non_tuple, is_non_list, is_non_dict, is_bl_int, is_bl_bool, is_bl_str, is_bl_tuple, is_bl_list, is_bl_dict, is_int_int, is_int_bool, is_int_str, is_int_tuple, is_int_list, is_int_dict, is_str_int, is_str_bool, is_str_str, is_str_tuple, is_str_list, is_str_dict, is_tup_int, is_tup_bool, is_tup_str, is_tup_tuple, is_tup_list, is_tup_dict, is_lst_int, is_lst_bool, is_lst_str, is_lst_tuple, is_lst_list, is_lst_dict, is_dic_int, is_dic_bool, is_dic_str, is_dic_tuple, is_dic_list, is_dic_dict, e_fld, e_prop, e_mcall, kFld_ok, kPrp_ok, kPrp1_some, kMth_ok, kMth1_some, kMth2_ok, rnox_ok, vB_fld, vB_prop, vB_mcall, s_setF, kSetF_ok, setFF_self, putD_nil])
local macro_rules | `(tactic| walk_at "pvh") => `(tactic| simp only [e_var, e_int, e_str, e_bl, e_non, e_glob, e_tup, e_lst, e_lstM, e_dic0, e_bin, e_neg, e_not, e_and, e_or, e_cmp, e_chain, e_isN, e_notN, e_ifx, e_sub, e_slice, e_call, e_bi, e_isi, e_comp, es_nil, es_cons, o_no, o_some, t_val, t_and, t_or, t_not, t_cmp, t_chain, t_isN, t_notN, kCons_ok, kCons_exc, kCons1_ok, kCons1_exc, kTup_ok, kTup_exc, kLst_ok, kLst_exc, kLstM_ok, kCall_ok, kCall_exc, kBin_ok, kBin_exc, kBin1_ok, kBin1_exc, kNeg_ok, kNot_ok, kNot_exc, kAnd_ok, kAnd_exc, kOr_ok, kOr_exc, kCmp_ok, kCmp_exc, kCmp1_ok, kCmp1_exc, kCh_ok, kCh1_ok, kCh2_some, kIf_ok, kIf_exc, kSub_ok, kSub_exc, kSub1_ok, kSub1_exc, kSl_ok, kSl1_ok, kSl2_ok, kBi_ok, kBi_exc, kIsi_ok, kTru_bl, kTru_exc, kTAnd_ok, kTAnd_exc, kTOr_ok, kTOr_exc, kTNot_ok, kTNot_exc, kTB_ok, kTB_exc, kInt_ok, kIsN_non, kNotN_non, ofO_some, ss_nil, ss_cons, s_expr, s_set, s_par, s_asg, s_putL, s_ownNew, s_ownApp, s_freeze, s_ret, s_retN, s_ite, s_whl, s_forN, s_forR, s_brk, s_cont, s_pass, s_raise, s_try, sq_nx, sq_rt, sq_bk, sq_ct, sq_exc, kExpr_ok, kExpr_exc, kSet_ok, kSet_exc, kPar_ok, kPar_exc, kPar1_ok, kPar1_exc, kAsg_ok, kAsg_exc, kPut_ok, kPut1_ok, kPut2_ok, kOwn_ok, kApp_ok, kRet_ok, kRet_exc, kSIf_ok, kSIf_exc, kFor_tup, kFor_lst, kRun_nx, kRun_rt, kRun_exc, kTry_ok, kTry_exc, nox_ok, eq_ii, eq_ss, si0, si1, si2, si3, si4, si5, si6, si7, si8, si9, si10, si11, si12, si13, si14, si15, b_add, b_sub, c_lt, c_le, c_gt, c_ge, eq_ii, eq_ss, c_eq, c_ne, k_abs, k_int, k_intB, k_lenT, k_lenL, k_lenS, x_tup, x_lst, gi0, si0, gi1, si1, gi2, si2, gi3, si3, gi4, si4, gi5, si5, gi6, si6, gi7, si7, gi8, si8, gi9, si9, gi10, si10, gi11, si11, gi12, si12, gi13, si13, gi14, si14, gi15, si15, ri0, ri1, ri2, ri3, ri4, ri5, ri6, ri7, ri8, ri9, ri10, ri11, ai0, ai1, ai2, ai3, ai4, ai5, ai6, ai7, ai8, ai9, List.map_cons, List.map_nil, List.cons_append, List.nil_append, List.append_nil, Option.map_some, R.bind_ok, Bool.not_true, Bool.not_false, if_true, if_false, Bool.false_eq_true, decide_true, decide_false, Nat.reduceSub, bindT, bindTs, List.length_cons, List.length_nil, sizeLine_eq, Nat.reduceAdd, Nat.reduceLeDiff, Nat.zero_add, decide_eq_true_eq, x_obj0, put0, put1, put2, ic0, ic1, ic2, ic3, ic4, ic5, ic6, ic7, ic8, ic9, ic10, ic11, ic12, ic13, ic14, ic15, ic16, ic17, ic18, ic19, ic20, ic21, ic22, ic23, Int.reduceEq, Int.reduceLT, Int.reduceLE, Int.reduceNeg, vB_var, vB_int, vB_str, vB_bl, vB_non, vB_glob, vB_tup, vB_lst, vB_dic0, vB_bin, vB_neg, vB_not, vB_and, vB_or, vB_cmp, vB_chain, vB_isN, vB_notN, vB_ifx, vB_sub, vB_slice, vB_call, vB_bi, vB_isi, vB_comp, vB_fmt, vB_fstr, vB_join, vB_own, rs_int, rs_str, rs_bl, rs_non, rs_tup, rs_lst, rs_dic, rs_scr, kFmt_ok, kJoin_ok, kJ_ok, kListM_ok, e_listM, e_fmt, e_fstr, e_join, j_nil, j_cons, kCmpC_ok, kCmpC_exc, s_ownAdd, s_appL, kOAdd_ok, kOAdd1_ok, addF_ok, sw_line_slide, sw_line_read, sw_line_try, sw_line_left, sw_line_right, sw_slide_line, sw_slide_read, sw_slide_try, sw_slide_left, sw_slide_right, sw_read_line, sw_read_slide, sw_read_try, sw_read_left, sw_read_right, sw_try_line, sw_try_slide, sw_try_read, sw_try_left, sw_try_right, sw_left_line, sw_left_slide, sw_left_read, sw_left_try, sw_left_right, sw_right_line, sw_right_slide, sw_right_read, sw_right_try, sw_right_left, it_lst, it_tup, kAppL_obj, kAppL1_ok, appF_ok, e_compI, cstep_ap, cst1_some, kCC_ok, kSome_ok, c_no, c_some, kCompI_ok, kCompE_ok, e_sset, e_lset, e_allL, i_seq, i_rng, i_rng2, i_enum, i_zip, kSeq_tup, kSeq_lst, kSeq_str, kSeq_exc, kRng2_ok, kEnum_lst, kZip_ok, kZip1_lst, vB_compI, vB_sset, vB_lset, vB_allL, rs_cdic, s_forI, s_ownExt, kForI_ok, kForI_exc, lstep_ap, lst1_some, kExt_lst, c_in, c_nin, s_aug, kAug_ok, au_add, au_sub, is_non_int, is_non_bool, is_non_str, is_non_tuple, is_non_list, is_non_dict, is_bl_int, is_bl_bool, is_bl_str, is_bl_tuple, is_bl_list, is_bl_dict, is_int_int, is_int_bool, is_int_str, is_int_tuple, is_int_list, is_int_dict, is_str_int, is_str_bool, is_str_str, is_str_tuple, is_str_list, is_str_dict, is_tup_int, is_tup_bool, is_tup_str, is_tup_tuple, is_tup_list, is_tup_dict, is_lst_int, is_lst_bool, is_lst_str, is_lst_tuple, is_lst_list, is_lst_dict, is_dic_int, is_dic_bool, is_dic_str, is_dic_tuple, is_dic_list, is_dic_dict, e_fld, e_prop, e_mcall, kFld_ok, kPrp_ok, kPrp1_some, kMth_ok, kMth1_some, kMth2_ok, rnox_ok, vB_fld, vB_prop, vB_mcall, s_setF, kSetF_ok, setFF_self, putD_nil, *])
def d_is_name : Df := ⟨2, 1, [],
    (.cons (.ite (.or (.not (.val (.isi (.var 0) .str))) (.not (.chain .le .le (.int 1) (.bi .len (.var 0)) (.glob "MAX_LETTERS"))))
    (.cons (.ret (.bl false))
    .nil)
    .nil)
    (.cons (.ret (.allL (.compI (.cmp .in_ (.var 1) (.glob "LETTERS")) (.nm 1) (.seq (.var 0)) .no)))
    .nil)), false⟩
def d_numbered_b1 : Ss := (.cons (.set 5 (.call "numbered" (.cons (.var 4) (.cons (.var 1) .nil))))
    (.cons (.ownExt 2 (.var 5))
    (.cons (.aug 1 .add (.bi .len (.var 5)))
    .nil)))
def d_numbered_b2 : Ss := (.cons (.ownApp 2 (.tup (.cons (.var 1) (.cons (.var 3) .nil))))
    (.cons (.aug 1 .add (.int 1))
    (.cons (.ite (.cmp .eq (.sub (.var 3) (.int 0)) (.str "try"))
    (.cons (.for_ (.nm 4) (.slice (.var 3) (.some (.int 1)) .no) d_numbered_b1)
    .nil)
    .nil)
    .nil)))
def d_numbered : Df := ⟨6, 2, [],
    (.cons (.ownNew 2 .nil)
    (.cons (.for_ (.nm 3) (.var 0) d_numbered_b2)
    (.cons (.freeze 2)
    (.cons (.ret (.var 2))
    .nil)))), false⟩
def d_count_steps : Df := ⟨1, 1, [],
    (.cons (.ret (.bi .len (.call "numbered" (.cons (.var 0) (.cons (.int 0) .nil)))))
    .nil), false⟩
def d_notes_of : Df := ⟨3, 1, [],
    (.cons (.ret (.bi .tuple (.sset (.compI (.sub (.var 2) (.int 2)) (.tup (.cons (.nm 1) (.cons (.nm 2) .nil))) (.seq (.call "numbered" (.cons (.var 0) (.cons (.int 0) .nil)))) (.some (.cmp .eq (.sub (.var 2) (.int 0)) (.str "read")))))))
    .nil), false⟩
def d_used_names : Df := ⟨5, 1, [],
    (.cons (.set 1 (.compI (.sub (.var 4) (.int 3)) (.tup (.cons (.nm 3) (.cons (.nm 4) .nil))) (.seq (.call "numbered" (.cons (.var 0) (.cons (.int 0) .nil)))) (.some (.cmp .in_ (.sub (.var 4) (.int 0)) (.tup (.cons (.str "line") (.cons (.str "slide") .nil)))))))
    (.cons (.ret (.compI (.var 2) (.nm 2) (.seq (.var 1)) (.some (.val (.call "is_name" (.cons (.var 2) .nil))))))
    .nil)), false⟩
def d_operands_of : Df := ⟨3, 1, [],
    (.cons (.set 1 (.call "notes_of" (.cons (.var 0) .nil)))
    (.cons (.ret (.bi .tuple (.sset (.compI (.var 2) (.nm 2) (.seq (.call "used_names" (.cons (.var 0) .nil))) (.some (.cmp .nin (.var 2) (.var 1)))))))
    .nil)), false⟩
def d_law_is_try : Df := ⟨1, 1, [],
    (.cons (.ite (.or (.not (.val (.isi (.var 0) .tuple))) (.or (.cmp .ne (.bi .len (.var 0)) (.int 3)) (.cmp .ne (.sub (.var 0) (.int 0)) (.str "try"))))
    (.cons (.ret (.bl false))
    .nil)
    .nil)
    (.cons (.ret (.and (.isi (.sub (.var 0) (.int 1)) .tuple) (.isi (.sub (.var 0) (.int 2)) .tuple)))
    .nil)), false⟩
def d_law_size_b1 : Ss := (.cons (.set 1 (.bin .add (.var 1) (.int 1)))
    (.cons (.ite (.val (.call "_law_is_try" (.cons (.var 2) .nil)))
    (.cons (.set 1 (.bin .add (.bin .add (.var 1) (.call "_law_size" (.cons (.sub (.var 2) (.int 1)) .nil))) (.call "_law_size" (.cons (.sub (.var 2) (.int 2)) .nil))))
    .nil)
    .nil)
    .nil))
def d_law_size : Df := ⟨3, 1, [],
    (.cons (.set 1 (.int 0))
    (.cons (.for_ (.nm 2) (.var 0) d_law_size_b1)
    (.cons (.ret (.var 1))
    .nil))), false⟩
def d_law_put_b1 : Ss := (.cons (.set 5 (.call "_law_size" (.cons (.tup (.cons (.var 4) .nil)) .nil)))
    (.cons (.ite (.cmp .eq (.var 1) (.int 0))
    (.cons (.set 3 (.bin .add (.var 3) (.var 2)))
    .nil)
    (.cons (.ite (.chain .lt .lt (.int 0) (.var 1) (.var 5))
    (.cons (.set 6 (.call "_law_size" (.cons (.sub (.var 4) (.int 1)) .nil)))
    (.cons (.ite (.cmp .le (.var 1) (.var 6))
    (.cons (.set 3 (.bin .add (.var 3) (.tup (.cons (.tup (.cons (.str "try") (.cons (.call "_law_put" (.cons (.sub (.var 4) (.int 1)) (.cons (.bin .sub (.var 1) (.int 1)) (.cons (.var 2) .nil)))) (.cons (.sub (.var 4) (.int 2)) .nil)))) .nil))))
    .nil)
    (.cons (.set 7 (.call "_law_put" (.cons (.sub (.var 4) (.int 2)) (.cons (.bin .sub (.bin .sub (.var 1) (.int 1)) (.var 6)) (.cons (.var 2) .nil)))))
    (.cons (.set 3 (.bin .add (.var 3) (.tup (.cons (.tup (.cons (.str "try") (.cons (.sub (.var 4) (.int 1)) (.cons (.var 7) .nil)))) .nil))))
    .nil)))
    .nil))
    (.cons (.set 3 (.bin .add (.var 3) (.tup (.cons (.var 4) .nil))))
    .nil))
    .nil))
    (.cons (.set 1 (.bin .sub (.var 1) (.var 5)))
    .nil)))
def d_law_put : Df := ⟨8, 3, [],
    (.cons (.set 3 (.tup .nil))
    (.cons (.for_ (.nm 4) (.var 0) d_law_put_b1)
    (.cons (.ret (.var 3))
    .nil))), false⟩
def d_law_all_b1 : Ss := (.cons (.ownApp 1 (.var 2))
    (.cons (.ite (.val (.call "_law_is_try" (.cons (.var 2) .nil)))
    (.cons (.ownAdd 1 (.bin .add (.own 1) (.call "_law_all" (.cons (.sub (.var 2) (.int 1)) .nil))) (.call "_law_all" (.cons (.sub (.var 2) (.int 2)) .nil)))
    .nil)
    .nil)
    .nil))
def d_law_all : Df := ⟨3, 1, [],
    (.cons (.ownNew 1 .nil)
    (.cons (.for_ (.nm 2) (.var 0) d_law_all_b1)
    (.cons (.freeze 1)
    (.cons (.ret (.var 1))
    .nil)))), false⟩
section
open TL
variable {C : Cn} {t : Tbl}
/-! ### comprehensions that come to plain lists -/
theorem compO_map {α : Type} {h : α → D} {f : D → S → R (Option D)} {g : α → Option D} {s : S} : ∀ {l : List α}, (∀ a ∈ l, f (h a) s = .ok (g a) s) → compO f (l.map h) s = .ok (l.filterMap g) s
  | [], _ => rfl
  | a :: l, hh => by
    rw [List.map_cons]
    unfold compO
    rw [hh a List.mem_cons_self]
    have ih := compO_map (f := f) (s := s) fun b hb => hh b (List.mem_cons_of_mem _ hb)
    cases e : g a with
    | none => dsimp only; rw [ih, List.filterMap_cons, e]
    | some d => dsimp only; rw [ih, List.filterMap_cons, e]
theorem kCompE_map {α : Type} {h : α → D} {f : D → S → R (Option D)} {g : α → Option D} {s : S} {l : List α} (hl : l.length ≤ 1000000) (hh : ∀ a ∈ l, f (h a) s = .ok (g a) s) : kCompE (compO f (l.map h) s) = .ok (.lst (l.filterMap g)) s := by
  rw [compO_map hh, kCompE_ok, if_pos]
  have := List.length_filterMap_le g l
  rw [sizeLine_eq]
  omega
theorem fmap_some {α β : Type} {f : α → β} : ∀ l : List α, (l.filterMap fun a => some (f a)) = l.map f
  | [] => rfl
  | a :: l => by rw [List.filterMap_cons, fmap_some l]; rfl
theorem bools_map {α : Type} {p : α → Bool} : ∀ l : List α, boolsD (l.map fun a => .bl (p a)) = some (l.map p)
  | [] => rfl
  | a :: l => by simp only [List.map_cons, boolsD, bools_map l, Option.map_some]
theorem kAllL_map {α : Type} {p : α → Bool} {s : S} {l : List α} : kAllL (.ok (.lst (l.map fun a => .bl (p a))) s) = .ok (.bl (l.all p)) s := by
  have : kAllL (.ok (.lst (l.map fun a => .bl (p a))) s) = (match boolsD (l.map fun a => .bl (p a)) with | some bs => .ok (.bl (bs.all id)) s | none => .bad) := rfl
  rw [this, bools_map]
  dsimp only
  rw [List.all_map]
  rfl
theorem kSset_strs {zs : List Str} {s : S} (h : zs.length < 64) : kSset (.ok (.lst (zs.map .str)) s) = .ok (.lst ((ssetS zs).map .str)) s := by
  have e : kSset (.ok (.lst (zs.map .str)) s) = (match strsD (zs.map .str) with | some zs => if zs.length < 4000 ∧ (ddS zs).length < 64 then .ok (.lst ((ssetS zs).map .str)) s else .bad | none => .bad) := rfl
  rw [e, strs_map]
  dsimp only
  rw [if_pos]
  refine ⟨by omega, Nat.lt_of_le_of_lt ?_ h⟩
  have : ∀ l : List Str, (ddS l).length ≤ l.length := by
    intro l
    induction l with
    | nil => exact Nat.le_refl _
    | cons x r ih =>
      unfold ddS
      split
      · rw [List.length_cons]; omega
      · rw [List.length_cons, List.length_cons]; omega
  exact this zs
theorem in_sign {c : Nat} {z : Str} : inD (.str ⟨#[c]⟩) (.str z) = some (decide (c ∈ z.cps.toList)) := rfl
theorem eqF_ss {x y : Str} : eqFD (.str y) (.str x) = decide (y = x) := by
  show (y == x) = _
  rw [Bool.eq_iff_iff]
  simp
theorem any_strs {z : Str} : ∀ zs : List Str, ((zs.map D.str).any fun y => eqFD y (.str z)) = decide (z ∈ zs)
  | [] => by simp
  | y :: r => by
    have e : (z = y) = (y = z) := propext eq_comm
    rw [List.map_cons, List.any_cons, any_strs r, eqF_ss, Bool.eq_iff_iff, Bool.or_eq_true, decide_eq_true_eq, decide_eq_true_eq, decide_eq_true_eq, List.mem_cons, e]
theorem flat_strs : ∀ zs : List Str, (zs.map D.str).all flatD = true
  | [] => rfl
  | y :: r => by rw [List.map_cons, List.all_cons, flat_strs r]; rfl
theorem in_lst {z : Str} {zs : List Str} : inD (.str z) (.lst (zs.map .str)) = some (decide (z ∈ zs)) := by
  show (if _ then _ else _) = _
  rw [if_pos ⟨rfl, flat_strs zs⟩, any_strs]
theorem in_tup {z : Str} {zs : List Str} : inD (.str z) (.tup (zs.map .str)) = some (decide (z ∈ zs)) := by
  show (if _ then _ else _) = _
  rw [if_pos ⟨rfl, flat_strs zs⟩, any_strs]
/-! ### names of letters -/
def d_isNm (mx ls : String) : Df := ⟨2, 1, [],
    (.cons (.ite (.or (.not (.val (.isi (.var 0) .str))) (.not (.chain .le .le (.int 1) (.bi .len (.var 0)) (.glob mx))))
    (.cons (.ret (.bl false))
    .nil)
    .nil)
    (.cons (.ret (.allL (.compI (.cmp .in_ (.var 1) (.glob ls)) (.nm 1) (.seq (.var 0)) .no)))
    .nil)), false⟩
def nmB (L z : Str) : Bool := decide (1 ≤ z.length ∧ z.length ≤ 3) && z.cps.toList.all fun c => decide (c ∈ L.cps.toList)
theorem isNm_str {f mx ls : String} {L : Str} (h1 : C.con mx = some (.int 3)) (h2 : C.con ls = some (.str L)) (ht : t f = some (d_isNm mx ls)) (n : Nat) (st : S) {z : Str} (hz : z.length ≤ 1000000) : callN C t (n + 1) f [.str z] st = .ok (.bl (nmB L z)) st := by
  have el : biD st .len (.str z) = some (.int (z.length : Int)) := if_pos (by rw [sizeLine_eq]; omega)
  rw [call_run ht rfl]
  simp only [d_isNm, nmB]
  walk_at "p"
  rw [el]
  walk_at "p"
  rw [h1]
  walk_at "p"
  by_cases hl : 1 ≤ z.length ∧ z.length ≤ 3
  · have a1 : (1 : Int) ≤ (z.length : Int) := by omega
    have a2 : (z.length : Int) ≤ 3 := by omega
    simp only [a1, a2, hl.1, hl.2]
    walk_at "p"
    rw [kCompE_map (h := fun c => D.str ⟨#[c]⟩) (g := fun c => some (.bl (decide (c ∈ L.cps.toList)))) (by show z.length ≤ _; exact hz) (fun c _ => ?_), fmap_some]
    · skip
      walk_at "p"
      rw [kAllL_map]
      walk_at "p"
      simp
    · walk_at "p"
      rw [h2]
      walk_at "p"
      rw [in_sign]
      walk_at "p"
  · have a3 : ¬ ((1 : Int) ≤ (z.length : Int) ∧ (z.length : Int) ≤ 3) := by omega
    rw [decide_eq_false hl, Bool.false_and]
    by_cases a1 : (1 : Int) ≤ (z.length : Int)
    · have a2 : ¬ (z.length : Int) ≤ 3 := fun q => a3 ⟨a1, q⟩
      simp only [a1, a2]
      walk_at "p"
    · simp only [a1]
      walk_at "p"
theorem isNm_no {f mx ls : String} (ht : t f = some (d_isNm mx ls)) (n : Nat) (st : S) {d : D} (h : isiD d .str = some false) : callN C t (n + 1) f [d] st = .ok (.bl false) st := by
  rw [call_run ht rfl]
  simp only [d_isNm]
  walk_at "p"
  rw [h]
  walk_at "p"
end
end PV

set_option Elab.async false
set_option linter.all false
set_option maxRecDepth 100000
set_option maxHeartbeats 1000000
set_option exponentiation.threshold 30000
set_option pp.maxSteps 600
set_option pp.deepTerms false
set_option pp.deepTerms.threshold 6
namespace PV
open PySem PySem.Spec PyProof.Rows L2
local macro_rules | `(tactic| walk_at "pv") => `(tactic| simp only [e_var, e_int, e_str, e_bl, e_non, e_glob, e_tup, e_lst, e_lstM, e_dic0, e_bin, e_neg, e_not, e_and, e_or, e_cmp, e_chain, e_isN, e_notN, e_ifx, e_sub, e_slice, e_call, e_bi, e_isi, e_comp, es_nil, es_cons, o_no, o_some, t_val, t_and, t_or, t_not, t_cmp, t_chain, t_isN, t_notN, kCons_ok, kCons_exc, kCons1_ok, kCons1_exc, kTup_ok, kTup_exc, kLst_ok, kLst_exc, kLstM_ok, kCall_ok, kCall_exc, kBin_ok, kBin_exc, kBin1_ok, kBin1_exc, kNeg_ok, kNot_ok, kNot_exc, kAnd_ok, kAnd_exc, kOr_ok, kOr_exc, kCmp_ok, kCmp_exc, kCmp1_ok, kCmp1_exc, kCh_ok, kCh1_ok, kCh2_some, kIf_ok, kIf_exc, kSub_ok, kSub_exc, kSub1_ok, kSub1_exc, kSl_ok, kSl1_ok, kSl2_ok, kBi_ok, kBi_exc, kIsi_ok, kTru_bl, kTru_exc, kTAnd_ok, kTAnd_exc, kTOr_ok, kTOr_exc, kTNot_ok, kTNot_exc, kTB_ok, kTB_exc, kInt_ok, kIsN_non, kNotN_non, ofO_some, ss_nil, ss_cons, s_expr, s_set, s_par, s_asg, s_putL, s_ownNew, s_ownApp, s_freeze, s_ret, s_retN, s_ite, s_whl, s_forN, s_forR, s_brk, s_cont, s_pass, s_raise, s_try, sq_nx, sq_rt, sq_bk, sq_ct, sq_exc, kExpr_ok, kExpr_exc, kSet_ok, kSet_exc, kPar_ok, kPar_exc, kPar1_ok, kPar1_exc, kAsg_ok, kAsg_exc, kPut_ok, kPut1_ok, kPut2_ok, kOwn_ok, kApp_ok, kRet_ok, kRet_exc, kSIf_ok, kSIf_exc, kFor_tup, kFor_lst, kRun_nx, kRun_rt, kRun_exc, kTry_ok, kTry_exc, nox_ok, eq_ii, eq_ss, si0, si1, si2, si3, si4, si5, si6, si7, si8, si9, si10, si11, si12, si13, si14, si15, b_add, b_sub, c_lt, c_le, c_gt, c_ge, eq_ii, eq_ss, c_eq, c_ne, k_abs, k_int, k_intB, k_lenT, k_lenL, k_lenS, x_tup, x_lst, gi0, si0, gi1, si1, gi2, si2, gi3, si3, gi4, si4, gi5, si5, gi6, si6, gi7, si7, gi8, si8, gi9, si9, gi10, si10, gi11, si11, gi12, si12, gi13, si13, gi14, si14, gi15, si15, ri0, ri1, ri2, ri3, ri4, ri5, ri6, ri7, ri8, ri9, ri10, ri11, ai0, ai1, ai2, ai3, ai4, ai5, ai6, ai7, ai8, ai9, List.map_cons, List.map_nil, List.cons_append, List.nil_append, List.append_nil, Option.map_some, R.bind_ok, Bool.not_true, Bool.not_false, if_true, if_false, Bool.false_eq_true, decide_true, decide_false, Nat.reduceSub, bindT, bindTs, List.length_cons, List.length_nil, sizeLine_eq, Nat.reduceAdd, Nat.reduceLeDiff, Nat.zero_add, decide_eq_true_eq, x_obj0, put0, put1, put2, ic0, ic1, ic2, ic3, ic4, ic5, ic6, ic7, ic8, ic9, ic10, ic11, ic12, ic13, ic14, ic15, ic16, ic17, ic18, ic19, ic20, ic21, ic22, ic23, Int.reduceEq, Int.reduceLT, Int.reduceLE, Int.reduceNeg, vB_var, vB_int, vB_str, vB_bl, vB_non, vB_glob, vB_tup, vB_lst, vB_dic0, vB_bin, vB_neg, vB_not, vB_and, vB_or, vB_cmp, vB_chain, vB_isN, vB_notN, vB_ifx, vB_sub, vB_slice, vB_call, vB_bi, vB_isi, vB_comp, vB_fmt, vB_fstr, vB_join, vB_own, rs_int, rs_str, rs_bl, rs_non, rs_tup, rs_lst, rs_dic, rs_scr, kFmt_ok, kJoin_ok, kJ_ok, kListM_ok, e_listM, e_fmt, e_fstr, e_join, j_nil, j_cons, kCmpC_ok, kCmpC_exc, s_ownAdd, s_appL, kOAdd_ok, kOAdd1_ok, addF_ok, sw_line_slide, sw_line_read, sw_line_try, sw_line_left, sw_line_right, sw_slide_line, sw_slide_read, sw_slide_try, sw_slide_left, sw_slide_right, sw_read_line, sw_read_slide, sw_read_try, sw_read_left, sw_read_right, sw_try_line, sw_try_slide, sw_try_read, sw_try_left, sw_try_right, sw_left_line, sw_left_slide, sw_left_read, sw_left_try, sw_left_right, sw_right_line, sw_right_slide, sw_right_read, sw_right_try, sw_right_left, it_lst, it_tup, kAppL_obj, kAppL1_ok, appF_ok, e_compI, cstep_ap, cst1_some, kCC_ok, kSome_ok, c_no, c_some, kCompI_ok, kCompE_ok, e_sset, e_lset, e_allL, i_seq, i_rng, i_rng2, i_enum, i_zip, kSeq_tup, kSeq_lst, kSeq_str, kSeq_exc, kRng2_ok, kEnum_lst, kZip_ok, kZip1_lst, vB_compI, vB_sset, vB_lset, vB_allL, rs_cdic, s_forI, s_ownExt, kForI_ok, kForI_exc, lstep_ap, lst1_some, kExt_lst, c_in, c_nin, s_aug, kAug_ok, au_add, au_sub, is_non_int, is_non_bool, is_non_str, is_non_tuple, is_non_list, is_non_dict, is_bl_int, is_bl_bool, is_bl_str, is_bl_tuple, is_bl_list, is_bl_dict, is_int_int, is_int_bool, is_int_str, is_int_tuple, is_int_list, is_int_dict, is_str_int, is_str_bool, is_str_str, is_str_tuple, is_str_list, is_str_dict, is_tup_int, is_tup_bool, is_tup_str, is_tup_tuple, is_tup_list, is_tup_dict, is_lst_int, is_lst_bool, is_lst_str, is_lst_tuple, is_lst_list, is_lst_dict, is_dic_int, is_dic_bool, is_dic_str, is_dic_tuple, is_dic_list, is_dic_dict, e_fld, e_prop, e_mcall, kFld_ok, kPrp_ok, kPrp1_some, kMth_ok, kMth1_some, kMth2_ok, rnox_ok, vB_fld, vB_prop, vB_mcall, s_setF, kSetF_ok, setFF_self, putD_nil])
local macro_rules | `(tactic| walk_at "p") => `(tactic| try simp only [e_var, e_int, e_str, e_bl, e_non, e_glob, e_tup, e_lst, e_lstM, e_dic0, e_bin, e_neg, e_not, e_and, e_or, e_cmp, e_chain, e_isN, e_notN, e_ifx, e_sub, e_slice, e_call, e_bi, e_isi, e_comp, es_nil, es_cons, o_no, o_some, t_val, t_and, t_or, t_not, t_cmp, t_chain, t_isN, t_notN, kCons_ok, kCons_exc, kCons1_ok, kCons1_exc, kTup_ok, kTup_exc, kLst_ok, kLst_exc, kLstM_ok, kCall_ok, kCall_exc, kBin_ok, kBin_exc, kBin1_ok, kBin1_exc, kNeg_ok, kNot_ok, kNot_exc, kAnd_ok, kAnd_exc, kOr_ok, kOr_exc, kCmp_ok, kCmp_exc, kCmp1_ok, kCmp1_exc, kCh_ok, kCh1_ok, kCh2_some, kIf_ok, kIf_exc, kSub_ok, kSub_exc, kSub1_ok, kSub1_exc, kSl_ok, kSl1_ok, kSl2_ok, kBi_ok, kBi_exc, kIsi_ok, kTru_bl, kTru_exc, kTAnd_ok, kTAnd_exc, kTOr_ok, kTOr_exc, kTNot_ok, kTNot_exc, kTB_ok, kTB_exc, kInt_ok, kIsN_non, kNotN_non, ofO_some, ss_nil, ss_cons, s_expr, s_set, s_par, s_asg, s_putL, s_ownNew, s_ownApp, s_freeze, s_ret, s_retN, s_ite, s_whl, s_forN, s_forR, s_brk, s_cont, s_pass, s_raise, s_try, sq_nx, sq_rt, sq_bk, sq_ct, sq_exc, kExpr_ok, kExpr_exc, kSet_ok, kSet_exc, kPar_ok, kPar_exc, kPar1_ok, kPar1_exc, kAsg_ok, kAsg_exc, kPut_ok, kPut1_ok, kPut2_ok, kOwn_ok, kApp_ok, kRet_ok, kRet_exc, kSIf_ok, kSIf_exc, kFor_tup, kFor_lst, kRun_nx, kRun_rt, kRun_exc, kTry_ok, kTry_exc, nox_ok, eq_ii, eq_ss, si0, si1, si2, si3, si4, si5, si6, si7, si8, si9, si10, si11, si12, si13, si14, si15, b_add, b_sub, c_lt, c_le, c_gt, c_ge, eq_ii, eq_ss, c_eq, c_ne, k_abs, k_int, k_intB, k_lenT, k_lenL, k_lenS, x_tup, x_lst, gi0, si0, gi1, si1, gi2, si2, gi3, si3, gi4, si4, gi5, si5, gi6, si6, gi7, si7, gi8, si8, gi9, si9, gi10, si10, gi11, si11, gi12, si12, gi13, si13, gi14, si14, gi15, si15, ri0, ri1, ri2, ri3, ri4, ri5, ri6, ri7, ri8, ri9, ri10, ri11, ai0, ai1, ai2, ai3, ai4, ai5, ai6, ai7, ai8, ai9, List.map_cons, List.map_nil, List.cons_append, List.nil_append, List.append_nil, Option.map_some, R.bind_ok, Bool.not_true, Bool.not_false, if_true, if_false, Bool.false_eq_true, decide_true, decide_false, Nat.reduceSub, bindT, bindTs, List.length_cons, List.length_nil, sizeLine_eq, Nat.reduceAdd, Nat.reduceLeDiff, Nat.zero_add, decide_eq_true_eq, x_obj0, put0, put1, put2, ic0, ic1, ic2, ic3, ic4, ic5, ic6, ic7, ic8, ic9, ic10, ic11, ic12, ic13, ic14, ic15, ic16, ic17, ic18, ic19, ic20, ic21, ic22, ic23, Int.reduceEq, Int.reduceLT, Int.reduceLE, Int.reduceNeg, vB_var, vB_int, vB_str, vB_bl, vB_non, vB_glob, vB_tup, vB_lst, vB_dic0, vB_bin, vB_neg, vB_not, vB_and, vB_or, vB_cmp, vB_chain, vB_isN, vB_notN, vB_ifx, vB_sub, vB_slice, vB_call, vB_bi, vB_isi, vB_comp, vB_fmt, vB_fstr, vB_join, vB_own, rs_int, rs_str, rs_bl, rs_non, rs_tup, rs_lst, rs_dic, rs_scr, kFmt_ok, kJoin_ok, kJ_ok, kListM_ok, e_listM, e_fmt, e_fstr, e_join, j_nil, j_cons, kCmpC_ok, kCmpC_exc, s_ownAdd, s_appL, kOAdd_ok, kOAdd1_ok, addF_ok, sw_line_slide, sw_line_read, sw_line_try, sw_line_left, sw_line_right, sw_slide_line, sw_slide_read, sw_slide_try, sw_slide_left, sw_slide_right, sw_read_line, sw_read_slide, sw_read_try, sw_read_left, sw_read_right, sw_try_line, sw_try_slide, sw_try_read, sw_try_left, sw_try_right, sw_left_line, sw_left_slide, sw_left_read, sw_left_try, sw_left_right, sw_right_line, sw_right_slide, sw_right_read, sw_right_try, sw_right_left, it_lst, it_tup, kAppL_obj, kAppL1_ok, appF_ok, e_compI, cstep_ap, cst1_some, kCC_ok, kSome_ok, c_no, c_some, kCompI_ok, kCompE_ok, e_sset, e_lset, e_allL, i_seq, i_rng, i_rng2, i_enum, i_zip, kSeq_tup, kSeq_lst, kSeq_str, kSeq_exc, kRng2_ok, kEnum_lst, kZip_ok, kZip1_lst, vB_compI, vB_sset, vB_lset, vB_allL, rs_cdic, s_forI, s_ownExt, kForI_ok, kForI_exc, lstep_ap, lst1_some, kExt_lst, c_in, c_nin, s_aug, kAug_ok, au_add, au_sub, is_non_int, is_non_bool, is_non_str, is_non_tuple, is_non_list, is_non_dict, is_bl_int, is_bl_bool, is_bl_str, is_bl_tuple, is_bl_list, is_bl_dict, is_int_int, is_int_bool, is_int_str, is_int_tuple, is_int_list, is_int_dict, is_str_int, is_str_bool, is_str_str, is_str_tuple, is_str_list, is_str_dict, is_tup_int, is_tup_bool, is_tup_str, is_tup_tuple, is_tup_list, is_tup_dict, is_lst_int, is_lst_bool, is_lst_str, is_lst_tuple, is_lst_list, is_lst_dict, is_dic_int, is_dic_bool, is_dic_str, is_dic_tuple, is_dic_list, is_dic_dict, e_fld, e_prop, e_mcall, kFld_ok, kPrp_ok, kPrp1_some, kMth_ok, kMth1_some, kMth2_ok, rnox_ok, vB_fld, vB_prop, vB_mcall, s_setF, kSetF_ok, setFF_self, putD_nil])
local macro_rules | `(tactic| walk_at "pvh") => `(tactic| simp only [e_var, e_int, e_str, e_bl, e_non, e_glob, e_tup, e_lst, e_lstM, e_dic0, e_bin, e_neg, e_not, e_and, e_or, e_cmp, e_chain, e_isN, e_notN, e_ifx, e_sub, e_slice, e_call, e_bi, e_isi, e_comp, es_nil, es_cons, o_no, o_some, t_val, t_and, t_or, t_not, t_cmp, t_chain, t_isN, t_notN, kCons_ok, kCons_exc, kCons1_ok, kCons1_exc, kTup_ok, kTup_exc, kLst_ok, kLst_exc, kLstM_ok, kCall_ok, kCall_exc, kBin_ok, kBin_exc, kBin1_ok, kBin1_exc, kNeg_ok, kNot_ok, kNot_exc, kAnd_ok, kAnd_exc, kOr_ok, kOr_exc, kCmp_ok, kCmp_exc, kCmp1_ok, kCmp1_exc, kCh_ok, kCh1_ok, kCh2_some, kIf_ok, kIf_exc, kSub_ok, kSub_exc, kSub1_ok, kSub1_exc, kSl_ok, kSl1_ok, kSl2_ok, kBi_ok, kBi_exc, kIsi_ok, kTru_bl, kTru_exc, kTAnd_ok, kTAnd_exc, kTOr_ok, kTOr_exc, kTNot_ok, kTNot_exc, kTB_ok, kTB_exc, kInt_ok, kIsN_non, kNotN_non, ofO_some, ss_nil, ss_cons, s_expr, s_set, s_par, s_asg, s_putL, s_ownNew, s_ownApp, s_freeze, s_ret, s_retN, s_ite, s_whl, s_forN, s_forR, s_brk, s_cont, s_pass, s_raise, s_try, sq_nx, sq_rt, sq_bk, sq_ct, sq_exc, kExpr_ok, kExpr_exc, kSet_ok, kSet_exc, kPar_ok, kPar_exc, kPar1_ok, kPar1_exc, kAsg_ok, kAsg_exc, kPut_ok, kPut1_ok, kPut2_ok, kOwn_ok, kApp_ok, kRet_ok, kRet_exc, kSIf_ok, kSIf_exc, kFor_tup, kFor_lst, kRun_nx, kRun_rt, kRun_exc, kTry_ok, kTry_exc, nox_ok, eq_ii, eq_ss, si0, si1, si2, si3, si4, si5, si6, si7, si8, si9, si10, si11, si12, si13, si14, si15, b_add, b_sub, c_lt, c_le, c_gt, c_ge, eq_ii, eq_ss, c_eq, c_ne, k_abs, k_int, k_intB, k_lenT, k_lenL, k_lenS, x_tup, x_lst, gi0, si0, gi1, si1, gi2, si2, gi3, si3, gi4, si4, gi5, si5, gi6, si6, gi7, si7, gi8, si8, gi9, si9, gi10, si10, gi11, si11, gi12, si12, gi13, si13, gi14, si14, gi15, si15, ri0, ri1, ri2, ri3, ri4, ri5, ri6, ri7, ri8, ri9, ri10, ri11, ai0, ai1, ai2, ai3, ai4, ai5, ai6, ai7, ai8, ai9, List.map_cons, List.map_nil, List.cons_append, List.nil_append, List.append_nil, Option.map_some, R.bind_ok, Bool.not_true, Bool.not_false, if_true, if_false, Bool.false_eq_true, decide_true, decide_false, Nat.reduceSub, bindT, bindTs, List.length_cons, List.length_nil, sizeLine_eq, Nat.reduceAdd, Nat.reduceLeDiff, Nat.zero_add, decide_eq_true_eq, x_obj0, put0, put1, put2, ic0, ic1, ic2, ic3, ic4, ic5, ic6, ic7, ic8, ic9, ic10, ic11, ic12, ic13, ic14, ic15, ic16, ic17, ic18, ic19, ic20, ic21, ic22, ic23, Int.reduceEq, Int.reduceLT, Int.reduceLE, Int.reduceNeg, vB_var, vB_int, vB_str, vB_bl, vB_non, vB_glob, vB_tup, vB_lst, vB_dic0, vB_bin, vB_neg, vB_not, vB_and, vB_or, vB_cmp, vB_chain, vB_isN, vB_notN, vB_ifx, vB_sub, vB_slice, vB_call, vB_bi, vB_isi, vB_comp, vB_fmt, vB_fstr, vB_join, vB_own, rs_int, rs_str, rs_bl, rs_non, rs_tup, rs_lst, rs_dic, rs_scr, kFmt_ok, kJoin_ok, kJ_ok, kListM_ok, e_listM, e_fmt, e_fstr, e_join, j_nil, j_cons, kCmpC_ok, kCmpC_exc, s_ownAdd, s_appL, kOAdd_ok, kOAdd1_ok, addF_ok, sw_line_slide, sw_line_read, sw_line_try, sw_line_left, sw_line_right, sw_slide_line, sw_slide_read, sw_slide_try, sw_slide_left, sw_slide_right, sw_read_line, sw_read_slide, sw_read_try, sw_read_left, sw_read_right, sw_try_line, sw_try_slide, sw_try_read, sw_try_left, sw_try_right, sw_left_line, sw_left_slide, sw_left_read, sw_left_try, sw_left_right, sw_right_line, sw_right_slide, sw_right_read, sw_right_try, sw_right_left, it_lst, it_tup, kAppL_obj, kAppL1_ok, appF_ok, e_compI, cstep_ap, cst1_some, kCC_ok, kSome_ok, c_no, c_some, kCompI_ok, kCompE_ok, e_sset, e_lset, e_allL, i_seq, i_rng, i_rng2, i_enum, i_zip, kSeq_tup, kSeq_lst, kSeq_str, kSeq_exc, kRng2_ok, kEnum_lst, kZip_ok, kZip1_lst, vB_compI, vB_sset, vB_lset, vB_allL, rs_cdic, s_forI, s_ownExt, kForI_ok, kForI_exc, lstep_ap, lst1_some, kExt_lst, c_in, c_nin, s_aug, kAug_ok, au_add, au_sub, is_non_int, is_non_bool, is_non_str, is_non_tuple, is_non_list, is_non_dict, is_bl_int, is_bl_bool, is_bl_str, is_bl_tuple, is_bl_list, is_bl_dict, is_int_int, is_int_bool, is_int_str, is_int_tuple, is_int_list, is_int_dict, is_str_int, is_str_bool, is_str_str, is_str_tuple, is_str_list, is_str_dict, is_tup_int, is_tup_bool, is_tup_str, is_tup_tuple, is_tup_list, is_tup_dict, is_lst_int, is_lst_bool, is_lst_str, is_lst_tuple, is_lst_list, is_lst_dict, is_dic_int, is_dic_bool, is_dic_str, is_dic_tuple, is_dic_list, is_dic_dict, e_fld, e_prop, e_mcall, kFld_ok, kPrp_ok, kPrp1_some, kMth_ok, kMth1_some, kMth2_ok, rnox_ok, vB_fld, vB_prop, vB_mcall, s_setF, kSetF_ok, setFF_self, putD_nil, *])
section
open TL
variable {C : Cn} {t : Tbl}
theorem loop_cons {f : D → DE → S → RS} {k : DE → S → RS} {x : D} {xs : List D} {env : DE} {st : S} {N : DE → S → Prop} {T : D → S → Prop} (h : B (f x env st) (fun e s => B ((loopS f xs e s).sq k) N T) T) : B ((loopS f (x :: xs) env st).sq k) N T := by
  unfold loopS
  rcases h with ⟨e, s, z, q⟩ | ⟨d, s, z, q⟩
  · rw [z]; exact q
  · rw [z]; exact .inr ⟨d, s, rfl, q⟩
theorem loop_nil' {f : D → DE → S → RS} {k : DE → S → RS} {env : DE} {st : S} {N : DE → S → Prop} {T : D → S → Prop} (h : B (k env st) N T) : B ((loopS f [] env st).sq k) N T := h
/-! ### steps by their numbers -/
mutual
def numS (n : Nat) : Stp → List (Nat × Stp)
  | .tr a b => (n, .tr a b) :: (numL (n + 1) a ++ numL (n + 1 + sizes a) b)
  | .line sc k f => [(n, .line sc k f)]
  | .slide sc k f => [(n, .slide sc k f)]
  | .read sc z => [(n, .read sc z)]
def numL (n : Nat) : List Stp → List (Nat × Stp)
  | [] => []
  | s :: l => numS n s ++ numL (n + s.size) l
end
mutual
theorem numS_len : ∀ (s : Stp) (n : Nat), (numS n s).length = s.size
  | .tr a b, n => by simp [numS, Stp.size, numL_len a, numL_len b]; omega
  | .line sc k f, n => by simp [numS, Stp.size]
  | .slide sc k f, n => by simp [numS, Stp.size]
  | .read sc z, n => by simp [numS, Stp.size]
theorem numL_len : ∀ (l : List Stp) (n : Nat), (numL n l).length = sizes l
  | [], n => by simp [numL, sizes]
  | s :: l, n => by simp [numL, sizes, numS_len s, numL_len l]
end
def nsD (q : Nat × Stp) : D := .tup [.int (q.1 : Int), stD q.2]
theorem numbered_of (ht : t "numbered" = some d_numbered) (st : S) {m : Nat} {l : List Stp} (hz : sizes l ≤ 1000) {n : Nat}
    (ih : ∀ a b, Stp.tr a b ∈ l → ∀ k : Nat, callN C t m "numbered" [.tup (a.map stD), .int (k : Int)] st = .ok (.lst ((numL k a).map nsD)) st ∧ callN C t m "numbered" [.tup (b.map stD), .int (k : Int)] st = .ok (.lst ((numL k b).map nsD)) st) :
    callN C t (m + 1) "numbered" [.tup (l.map stD), .int (n : Int)] st = .ok (.lst ((numL n l).map nsD)) st := by
  suffices h : W (callN C t (m + 1) "numbered" [.tup (l.map stD), .int (n : Int)] st) fun d s => d = .lst ((numL n l).map nsD) ∧ s = st by
    obtain ⟨d, s, e, rfl, rfl⟩ := h
    exact e
  refine W_run ht rfl ?_
  simp only [d_numbered]
  walk_at "p"
  refine B_for (fun xs env s => ∃ (acc : List (Nat × Stp)) (q : List Stp) (k : Nat) (s3 s4 s5 : Sl), xs = q.map stD ∧ env = [.val (.tup (l.map stD)), .val (.int (k : Int)), .own (acc.map nsD), s3, s4, s5] ∧ s = st ∧ acc ++ numL k q = numL n l ∧ acc.length + sizes q ≤ 1000 ∧ (∀ y ∈ q, y ∈ l))
    ⟨[], l, n, _, _, _, rfl, rfl, rfl, rfl, by simpa using hz, fun _ h => h⟩ ?_ ?_
  · rintro x xs env s ⟨acc, q, k, s3, s4, s5, e, rfl, rfl, hp, hl, hm⟩
    match q, e with
    | y :: q, e =>
      simp only [List.map_cons, List.cons.injEq] at e
      obtain ⟨rfl, rfl⟩ := e
      have hm' : ∀ z ∈ q, z ∈ l := fun z h => hm z (List.mem_cons_of_mem _ h)
      simp only [sizes] at hl
      have yp : 1 ≤ y.size := by cases y <;> simp [Stp.size]; omega
      simp only [d_numbered_b2]
      walk_at "p"
      rw [if_pos (by rw [List.length_map]; omega)]
      have e1 : acc.map nsD ++ [.tup [.int (k : Int), stD y]] = (acc ++ [(k, y)]).map nsD := by rw [List.map_append]; rfl
      have e2 : (k : Int) + 1 = ((k + 1 : Nat) : Int) := by omega
      rw [e1]
      walk_at "p"
      rw [e2]
      have fin : ∀ (env : DE) (s4' s5' : Sl), env = [.val (.tup (l.map stD)), .val (.int ((k + y.size : Nat) : Int)), .own ((acc ++ numS k y).map nsD), .val (stD y), s4', s5'] →
          ∃ (acc : List (Nat × Stp)) (q' : List Stp) (k : Nat) (s3 s4 s5 : Sl), q.map stD = q'.map stD ∧ env = [.val (.tup (l.map stD)), .val (.int (k : Int)), .own (acc.map nsD), s3, s4, s5] ∧ s = s ∧ acc ++ numL k q' = numL n l ∧ acc.length + sizes q' ≤ 1000 ∧ (∀ y ∈ q', y ∈ l) := by
        intro env s4' s5' e
        refine ⟨acc ++ numS k y, q, k + y.size, _, _, _, rfl, e, rfl, by rw [← hp, List.append_assoc]; rfl, ?_, hm'⟩
        rw [List.length_append, numS_len]; omega
      cases y with
      | line sc i f =>
        rw [stD, numS, show (Stp.line sc i f).size = 1 from rfl] at fin
        rw [stD]
        walk_at "p"
        exact B.nx (fin _ _ _ rfl)
      | slide sc i f =>
        rw [stD, numS, show (Stp.slide sc i f).size = 1 from rfl] at fin
        rw [stD]
        walk_at "p"
        exact B.nx (fin _ _ _ rfl)
      | read sc z =>
        rw [stD, numS, show (Stp.read sc z).size = 1 from rfl] at fin
        rw [stD]
        walk_at "p"
        exact B.nx (fin _ _ _ rfl)
      | tr a b =>
        simp only [Stp.size] at hl
        obtain ⟨ia, -⟩ := ih a b (hm _ List.mem_cons_self) (k + 1)
        obtain ⟨-, ib⟩ := ih a b (hm _ List.mem_cons_self) (k + 1 + sizes a)
        have eq1 : stD (.tr a b) = .tup [.str (Str.ofString "try"), .tup (a.map stD), .tup (b.map stD)] := tr_eq.symm
        have es : sliceD s (.tup [.str (Str.ofString "try"), .tup (a.map stD), .tup (b.map stD)]) (some 1) none = some (.tup [.tup (a.map stD), .tup (b.map stD)]) := rfl
        rw [eq1] at fin ⊢
        walk_at "p"
        rw [es]
        walk_at "p"
        rw [sq_assoc]
        refine loop_cons ?_
        simp only [d_numbered_b1]
        walk_at "p"
        rw [ia]
        walk_at "p"
        rw [if_pos (by rw [List.length_map, List.length_map, List.length_append, numL_len]; simp; omega), ← List.map_append]
        walk_at "p"
        have e3 : ((k + 1 : Nat) : Int) + (((numL (k + 1) a).map nsD).length : Int) = ((k + 1 + sizes a : Nat) : Int) := by rw [List.length_map, numL_len]; omega
        rw [e3]
        refine B.nx ?_
        refine loop_cons ?_
        walk_at "p"
        rw [ib]
        walk_at "p"
        rw [if_pos (by rw [List.length_map, List.length_map, List.length_append, List.length_append, numL_len, numL_len]; simp; omega), ← List.map_append]
        walk_at "p"
        have e4 : ((k + 1 + sizes a : Nat) : Int) + (((numL (k + 1 + sizes a) b).map nsD).length : Int) = ((k + (Stp.tr a b).size : Nat) : Int) := by rw [List.length_map, numL_len]; simp only [Stp.size]; omega
        rw [e4]
        refine B.nx (loop_nil' ?_)
        walk_at "p"
        have ef : acc ++ [(k, Stp.tr a b)] ++ numL (k + 1) a ++ numL (k + 1 + sizes a) b = acc ++ numS k (.tr a b) := by
          rw [numS]
          simp only [List.append_assoc, List.cons_append, List.nil_append]
        rw [ef]
        exact B.nx (fin _ _ _ rfl)
  · rintro env s ⟨acc, q, k, s3, s4, s5, e, rfl, rfl, hp, _⟩
    have : q = [] := by simpa using e.symm
    subst this
    simp only [numL, List.append_nil] at hp
    subst hp
    walk_at "p"
    exact B.rt ⟨rfl, rfl⟩
theorem numbered_ok (ht : t "numbered" = some d_numbered) (st : S) : ∀ (dep m : Nat) (l : List Stp) (n : Nat), depths l ≤ dep → sizes l ≤ 1000 → callN C t (m + dep + 1) "numbered" [.tup (l.map stD), .int (n : Int)] st = .ok (.lst ((numL n l).map nsD)) st := by
  intro dep
  induction dep with
  | zero =>
    intro m l n hd hz
    refine numbered_of ht st hz fun a b hm => ?_
    have := (size_mem hm).2
    simp only [Stp.depth] at this
    omega
  | succ dep ih =>
    intro m l n hd hz
    refine numbered_of ht st hz fun a b hm k => ?_
    have h1 := size_mem hm
    simp only [Stp.depth, Stp.size] at h1
    exact ⟨ih m a k (by omega) (by omega), ih m b k (by omega) (by omega)⟩
theorem count_ok (hn : t "numbered" = some d_numbered) (ht : t "count_steps" = some d_count_steps) (st : S) {dep m : Nat} {l : List Stp} (hd : depths l ≤ dep) (hz : sizes l ≤ 1000) : callN C t (m + dep + 2) "count_steps" [.tup (l.map stD)] st = .ok (.int (sizes l : Int)) st := by
  have h := numbered_ok (C := C) hn st dep m l 0 hd hz
  rw [call_run ht rfl]
  simp only [d_count_steps]
  walk_at "p"
  rw [show (0 : Int) = ((0 : Nat) : Int) from rfl, h]
  walk_at "p"
  rw [List.length_map, numL_len]
  walk_at "p"
/-! ### notes, figures, operands -/
def rdN : Stp → Option Str
  | .read _ z => some z
  | _ => none
def stF : Stp → Option Fig
  | .line _ _ f => some f
  | .slide _ _ f => some f
  | _ => none
def fgN (L : Str) : Fig → Option Str
  | .nm z => if nmB L z = true then some z else none
  | _ => none
theorem fmap_str {α : Type} {g : α → Option Str} : ∀ l : List α, (l.filterMap fun a => (g a).map D.str) = (l.filterMap g).map .str
  | [] => rfl
  | a :: l => by
    rw [List.filterMap_cons, List.filterMap_cons, fmap_str l]
    cases g a <;> rfl
theorem fmap_fig {α : Type} {g : α → Option Fig} : ∀ l : List α, (l.filterMap fun a => (g a).map figD) = (l.filterMap g).map figD
  | [] => rfl
  | a :: l => by
    rw [List.filterMap_cons, List.filterMap_cons, fmap_fig l]
    cases g a <;> rfl
def notesL (l : List Stp) : List Str := (numL 0 l).filterMap fun q => rdN q.2
def figsL (l : List Stp) : List Fig := (numL 0 l).filterMap fun q => stF q.2
def usedL (L : Str) (l : List Stp) : List Str := (figsL l).filterMap (fgN L)
def opsL (L : Str) (l : List Stp) : List Str := (usedL L l).filter fun z => !decide (z ∈ ssetS (notesL l))
theorem notes_fold (l : List Stp) : ((numL 0 l).filterMap fun q => (rdN q.2).map D.str) = (notesL l).map .str := fmap_str _
theorem figs_fold (l : List Stp) : ((numL 0 l).filterMap fun q => (stF q.2).map figD) = (figsL l).map figD := fmap_fig _
theorem used_fold (L : Str) (l : List Stp) : ((figsL l).filterMap fun f => (fgN L f).map D.str) = (usedL L l).map .str := fmap_str _
theorem notesL_len (l : List Stp) : (notesL l).length ≤ sizes l := by
  have := List.length_filterMap_le (fun q : Nat × Stp => rdN q.2) (numL 0 l)
  rw [numL_len] at this
  exact this
theorem figsL_len (l : List Stp) : (figsL l).length ≤ sizes l := by
  have := List.length_filterMap_le (fun q : Nat × Stp => stF q.2) (numL 0 l)
  rw [numL_len] at this
  exact this
theorem usedL_len (L : Str) (l : List Stp) : (usedL L l).length ≤ sizes l := Nat.le_trans (List.length_filterMap_le _ _) (figsL_len l)
theorem notes_ok (hn : t "numbered" = some d_numbered) (ht : t "notes_of" = some d_notes_of) (st : S) {dep m : Nat} {l : List Stp} (hd : depths l ≤ dep) (hz : sizes l < 60) : callN C t (m + dep + 2) "notes_of" [.tup (l.map stD)] st = .ok (.tup ((ssetS (notesL l)).map .str)) st := by
  have h := numbered_ok (C := C) hn st dep m l 0 hd (by omega)
  have hl := notesL_len l
  rw [call_run ht rfl]
  simp only [d_notes_of]
  walk_at "p"
  rw [show (0 : Int) = ((0 : Nat) : Int) from rfl, h]
  walk_at "p"
  rw [kCompE_map (h := nsD) (g := fun q => (rdN q.2).map .str) (by rw [numL_len]; omega) (fun q _ => ?_), notes_fold]
  · walk_at "p"
    rw [kSset_strs (show (notesL l).length < 64 by omega)]
    have e : ∀ xs : List D, biD st .tuple (.lst xs) = some (.tup xs) := fun _ => rfl
    walk_at "p"
    rw [e]
    walk_at "p"
  · obtain ⟨i, s⟩ := q
    cases s with
    | line sc k f => simp only [nsD, stD, rdN]; walk_at "p"; rfl
    | slide sc k f => simp only [nsD, stD, rdN]; walk_at "p"; rfl
    | read sc z => simp only [nsD, stD, rdN]; walk_at "p"
    | tr a b => simp only [nsD, stD, rdN]; walk_at "p"; rfl
/-- the constants of names -/
structure NmC (C : Cn) (t : Tbl) (L : Str) : Prop where
  ex : ∃ mx ls, C.con mx = some (.int 3) ∧ C.con ls = some (.str L) ∧ t "is_name" = some (d_isNm mx ls)
  lf : nmB L (Str.ofString "left") = false
  rt : nmB L (Str.ofString "right") = false
theorem fig_name {L : Str} (nc : NmC C t L) (m : Nat) (st : S) {f : Fig} (hx : FigX f) : callN C t (m + 1) "is_name" [figD f] st = .ok (.bl (fgN L f).isSome) st := by
  obtain ⟨mx, ls, h1, h2, h3⟩ := nc.ex
  cases f with
  | nm z =>
    have hl := hx.1
    simp only [figD, fgN]
    rw [isNm_str h1 h2 h3 m st (by omega)]
    cases nmB L z <;> rfl
  | lft => simp only [figD, fgN]; rw [isNm_str h1 h2 h3 m st (by decide +kernel), nc.lf]; rfl
  | rgt => simp only [figD, fgN]; rw [isNm_str h1 h2 h3 m st (by decide +kernel), nc.rt]; rfl
  | mk p => simp only [figD, fgN]; exact isNm_no h3 m st rfl
theorem used_ok {L : Str} (nc : NmC C t L) (hn : t "numbered" = some d_numbered) (ht : t "used_names" = some d_used_names) (st : S) {dep m : Nat} {l : List Stp} (hd : depths l ≤ dep) (hz : sizes l < 60) (hx : ∀ f ∈ figsL l, FigX f) :
    callN C t (m + dep + 2) "used_names" [.tup (l.map stD)] st = .ok (.lst ((usedL L l).map .str)) st := by
  have h := numbered_ok (C := C) hn st dep m l 0 hd (by omega)
  have hl := figsL_len l
  have ein : ∀ w, inD (.str w) (.tup [.str (Str.ofString "line"), .str (Str.ofString "slide")]) = some (decide (w ∈ [Str.ofString "line", Str.ofString "slide"])) := fun w => in_tup (zs := [Str.ofString "line", Str.ofString "slide"])
  rw [call_run ht rfl]
  simp only [d_used_names]
  walk_at "p"
  rw [show (0 : Int) = ((0 : Nat) : Int) from rfl, h]
  walk_at "p"
  rw [kCompE_map (h := nsD) (g := fun q => (stF q.2).map figD) (by rw [numL_len]; omega) (fun q _ => ?_), figs_fold]
  · walk_at "p"
    rw [kCompE_map (h := figD) (l := figsL l) (g := fun f => (fgN L f).map .str) (by omega) (fun f hf => ?_), used_fold]
    · walk_at "p"
    · walk_at "p"
      rw [fig_name nc (m + dep) st (hx f hf)]
      walk_at "p"
      cases f with
      | nm z =>
        simp only [fgN]
        by_cases hb : nmB L z = true
        · simp only [if_pos hb]; rfl
        · simp only [if_neg hb]; rfl
      | lft => rfl
      | rgt => rfl
      | mk p => rfl
  · obtain ⟨i, s⟩ := q
    cases s with
    | line sc k f => simp only [nsD, stD, stF]; walk_at "p"; rw [ein]; walk_at "p"; rw [if_pos (by simp)]; walk_at "p"
    | slide sc k f => simp only [nsD, stD, stF]; walk_at "p"; rw [ein]; walk_at "p"; rw [if_pos (by simp)]; walk_at "p"
    | read sc z => simp only [nsD, stD, stF]; walk_at "p"; rw [ein]; walk_at "p"; rw [if_neg (by decide +kernel)]; rfl
    | tr a b => simp only [nsD, stD, stF]; walk_at "p"; rw [ein]; walk_at "p"; rw [if_neg (by decide +kernel)]; rfl
theorem fmap_filter {z : Str → Bool} : ∀ l : List Str, (l.filterMap fun a => if z a = true then some (D.str a) else none) = (l.filter z).map .str
  | [] => rfl
  | a :: l => by
    rw [List.filterMap_cons, List.filter_cons, fmap_filter l]
    cases z a <;> rfl
theorem ops_fold (L : Str) (l : List Stp) : ((usedL L l).filterMap fun z => if (!decide (z ∈ ssetS (notesL l))) = true then some (D.str z) else none) = (opsL L l).map .str := fmap_filter _
theorem operands_ok {L : Str} (nc : NmC C t L) (hn : t "numbered" = some d_numbered) (hu : t "used_names" = some d_used_names) (ho : t "notes_of" = some d_notes_of) (ht : t "operands_of" = some d_operands_of) (st : S) {dep m : Nat} {l : List Stp} (hd : depths l ≤ dep) (hz : sizes l < 60) (hx : ∀ f ∈ figsL l, FigX f) :
    callN C t (m + dep + 3) "operands_of" [.tup (l.map stD)] st = .ok (.tup ((ssetS (opsL L l)).map .str)) st := by
  have h1 := notes_ok (C := C) hn ho st (dep := dep) (m := m) hd hz
  have h2 := used_ok (C := C) nc hn hu st (dep := dep) (m := m) hd hz hx
  have hl := usedL_len L l
  have e : ∀ xs : List D, biD st .tuple (.lst xs) = some (.tup xs) := fun _ => rfl
  rw [call_run ht rfl]
  simp only [d_operands_of]
  walk_at "p"
  rw [h1]
  walk_at "p"
  rw [h2]
  walk_at "p"
  rw [kCompE_map (h := D.str) (g := fun z => if (!decide (z ∈ ssetS (notesL l))) = true then some (.str z) else none) (by omega) (fun z _ => ?_), ops_fold]
  · walk_at "p"
    have : (opsL L l).length ≤ (usedL L l).length := List.length_filter_le _ _
    rw [kSset_strs (zs := opsL L l) (by omega)]
    walk_at "p"
    rw [e]
    walk_at "p"
  · walk_at "p"
    rw [in_tup]
    walk_at "p"
    split <;> rfl
end
end PV

set_option Elab.async false
set_option linter.all false
set_option maxRecDepth 100000
set_option maxHeartbeats 1000000
set_option exponentiation.threshold 30000
set_option pp.maxSteps 600
set_option pp.deepTerms false
set_option pp.deepTerms.threshold 6
namespace PV
open PySem PySem.Spec PyProof.Rows L2
local macro_rules | `(tactic| walk_at "pv") => `(tactic| simp only [e_var, e_int, e_str, e_bl, e_non, e_glob, e_tup, e_lst, e_lstM, e_dic0, e_bin, e_neg, e_not, e_and, e_or, e_cmp, e_chain, e_isN, e_notN, e_ifx, e_sub, e_slice, e_call, e_bi, e_isi, e_comp, es_nil, es_cons, o_no, o_some, t_val, t_and, t_or, t_not, t_cmp, t_chain, t_isN, t_notN, kCons_ok, kCons_exc, kCons1_ok, kCons1_exc, kTup_ok, kTup_exc, kLst_ok, kLst_exc, kLstM_ok, kCall_ok, kCall_exc, kBin_ok, kBin_exc, kBin1_ok, kBin1_exc, kNeg_ok, kNot_ok, kNot_exc, kAnd_ok, kAnd_exc, kOr_ok, kOr_exc, kCmp_ok, kCmp_exc, kCmp1_ok, kCmp1_exc, kCh_ok, kCh1_ok, kCh2_some, kIf_ok, kIf_exc, kSub_ok, kSub_exc, kSub1_ok, kSub1_exc, kSl_ok, kSl1_ok, kSl2_ok, kBi_ok, kBi_exc, kIsi_ok, kTru_bl, kTru_exc, kTAnd_ok, kTAnd_exc, kTOr_ok, kTOr_exc, kTNot_ok, kTNot_exc, kTB_ok, kTB_exc, kInt_ok, kIsN_non, kNotN_non, ofO_some, ss_nil, ss_cons, s_expr, s_set, s_par, s_asg, s_putL, s_ownNew, s_ownApp, s_freeze, s_ret, s_retN, s_ite, s_whl, s_forN, s_forR, s_brk, s_cont, s_pass, s_raise, s_try, sq_nx, sq_rt, sq_bk, sq_ct, sq_exc, kExpr_ok, kExpr_exc, kSet_ok, kSet_exc, kPar_ok, kPar_exc, kPar1_ok, kPar1_exc, kAsg_ok, kAsg_exc, kPut_ok, kPut1_ok, kPut2_ok, kOwn_ok, kApp_ok, kRet_ok, kRet_exc, kSIf_ok, kSIf_exc, kFor_tup, kFor_lst, kRun_nx, kRun_rt, kRun_exc, kTry_ok, kTry_exc, nox_ok, eq_ii, eq_ss, si0, si1, si2, si3, si4, si5, si6, si7, si8, si9, si10, si11, si12, si13, si14, si15, b_add, b_sub, c_lt, c_le, c_gt, c_ge, eq_ii, eq_ss, c_eq, c_ne, k_abs, k_int, k_intB, k_lenT, k_lenL, k_lenS, x_tup, x_lst, gi0, si0, gi1, si1, gi2, si2, gi3, si3, gi4, si4, gi5, si5, gi6, si6, gi7, si7, gi8, si8, gi9, si9, gi10, si10, gi11, si11, gi12, si12, gi13, si13, gi14, si14, gi15, si15, ri0, ri1, ri2, ri3, ri4, ri5, ri6, ri7, ri8, ri9, ri10, ri11, ai0, ai1, ai2, ai3, ai4, ai5, ai6, ai7, ai8, ai9, List.map_cons, List.map_nil, List.cons_append, List.nil_append, List.append_nil, Option.map_some, R.bind_ok, Bool.not_true, Bool.not_false, if_true, if_false, Bool.false_eq_true, decide_true, decide_false, Nat.reduceSub, bindT, bindTs, List.length_cons, List.length_nil, sizeLine_eq, Nat.reduceAdd, Nat.reduceLeDiff, Nat.zero_add, decide_eq_true_eq, x_obj0, put0, put1, put2, ic0, ic1, ic2, ic3, ic4, ic5, ic6, ic7, ic8, ic9, ic10, ic11, ic12, ic13, ic14, ic15, ic16, ic17, ic18, ic19, ic20, ic21, ic22, ic23, Int.reduceEq, Int.reduceLT, Int.reduceLE, Int.reduceNeg, vB_var, vB_int, vB_str, vB_bl, vB_non, vB_glob, vB_tup, vB_lst, vB_dic0, vB_bin, vB_neg, vB_not, vB_and, vB_or, vB_cmp, vB_chain, vB_isN, vB_notN, vB_ifx, vB_sub, vB_slice, vB_call, vB_bi, vB_isi, vB_comp, vB_fmt, vB_fstr, vB_join, vB_own, rs_int, rs_str, rs_bl, rs_non, rs_tup, rs_lst, rs_dic, rs_scr, kFmt_ok, kJoin_ok, kJ_ok, kListM_ok, e_listM, e_fmt, e_fstr, e_join, j_nil, j_cons, kCmpC_ok, kCmpC_exc, s_ownAdd, s_appL, kOAdd_ok, kOAdd1_ok, addF_ok, sw_line_slide, sw_line_read, sw_line_try, sw_line_left, sw_line_right, sw_slide_line, sw_slide_read, sw_slide_try, sw_slide_left, sw_slide_right, sw_read_line, sw_read_slide, sw_read_try, sw_read_left, sw_read_right, sw_try_line, sw_try_slide, sw_try_read, sw_try_left, sw_try_right, sw_left_line, sw_left_slide, sw_left_read, sw_left_try, sw_left_right, sw_right_line, sw_right_slide, sw_right_read, sw_right_try, sw_right_left, it_lst, it_tup, kAppL_obj, kAppL1_ok, appF_ok, e_compI, cstep_ap, cst1_some, kCC_ok, kSome_ok, c_no, c_some, kCompI_ok, kCompE_ok, e_sset, e_lset, e_allL, i_seq, i_rng, i_rng2, i_enum, i_zip, kSeq_tup, kSeq_lst, kSeq_str, kSeq_exc, kRng2_ok, kEnum_lst, kZip_ok, kZip1_lst, vB_compI, vB_sset, vB_lset, vB_allL, rs_cdic, s_forI, s_ownExt, kForI_ok, kForI_exc, lstep_ap, lst1_some, kExt_lst, c_in, c_nin, s_aug, kAug_ok, au_add, au_sub, is_non_int, is_non_bool, is_non_str, is_non_tuple, is_non_list, is_non_dict, is_bl_int, is_bl_bool, is_bl_str, is_bl_tuple, is_bl_list, is_bl_dict, is_int_int, is_int_bool, is_int_str, is_int_tuple, is_int_list, is_int_dict, is_str_int, is_str_bool, is_str_str, is_str_tuple, is_str_list, is_str_dict, is_tup_int, is_tup_bool, is_tup_str, is_tup_tuple, is_tup_list, is_tup_dict, is_lst_int, is_lst_bool, is_lst_str, is_lst_tuple, is_lst_list, is_lst_dict, is_dic_int, is_dic_bool, is_dic_str, is_dic_tuple, is_dic_list, is_dic_dict, e_fld, e_prop, e_mcall, kFld_ok, kPrp_ok, kPrp1_some, kMth_ok, kMth1_some, kMth2_ok, rnox_ok, vB_fld, vB_prop, vB_mcall, s_setF, kSetF_ok, setFF_self, putD_nil])
local macro_rules | `(tactic| walk_at "p") => `(tactic| try simp only [e_var, e_int, e_str, e_bl, e_non, e_glob, e_tup, e_lst, e_lstM, e_dic0, e_bin, e_neg, e_not, e_and, e_or, e_cmp, e_chain, e_isN, e_notN, e_ifx, e_sub, e_slice, e_call, e_bi, e_isi, e_comp, es_nil, es_cons, o_no, o_some, t_val, t_and, t_or, t_not, t_cmp, t_chain, t_isN, t_notN, kCons_ok, kCons_exc, kCons1_ok, kCons1_exc, kTup_ok, kTup_exc, kLst_ok, kLst_exc, kLstM_ok, kCall_ok, kCall_exc, kBin_ok, kBin_exc, kBin1_ok, kBin1_exc, kNeg_ok, kNot_ok, kNot_exc, kAnd_ok, kAnd_exc, kOr_ok, kOr_exc, kCmp_ok, kCmp_exc, kCmp1_ok, kCmp1_exc, kCh_ok, kCh1_ok, kCh2_some, kIf_ok, kIf_exc, kSub_ok, kSub_exc, kSub1_ok, kSub1_exc, kSl_ok, kSl1_ok, kSl2_ok, kBi_ok, kBi_exc, kIsi_ok, kTru_bl, kTru_exc, kTAnd_ok, kTAnd_exc, kTOr_ok, kTOr_exc, kTNot_ok, kTNot_exc, kTB_ok, kTB_exc, kInt_ok, kIsN_non, kNotN_non, ofO_some, ss_nil, ss_cons, s_expr, s_set, s_par, s_asg, s_putL, s_ownNew, s_ownApp, s_freeze, s_ret, s_retN, s_ite, s_whl, s_forN, s_forR, s_brk, s_cont, s_pass, s_raise, s_try, sq_nx, sq_rt, sq_bk, sq_ct, sq_exc, kExpr_ok, kExpr_exc, kSet_ok, kSet_exc, kPar_ok, kPar_exc, kPar1_ok, kPar1_exc, kAsg_ok, kAsg_exc, kPut_ok, kPut1_ok, kPut2_ok, kOwn_ok, kApp_ok, kRet_ok, kRet_exc, kSIf_ok, kSIf_exc, kFor_tup, kFor_lst, kRun_nx, kRun_rt, kRun_exc, kTry_ok, kTry_exc, nox_ok, eq_ii, eq_ss, si0, si1, si2, si3, si4, si5, si6, si7, si8, si9, si10, si11, si12, si13, si14, si15, b_add, b_sub, c_lt, c_le, c_gt, c_ge, eq_ii, eq_ss, c_eq, c_ne, k_abs, k_int, k_intB, k_lenT, k_lenL, k_lenS, x_tup, x_lst, gi0, si0, gi1, si1, gi2, si2, gi3, si3, gi4, si4, gi5, si5, gi6, si6, gi7, si7, gi8, si8, gi9, si9, gi10, si10, gi11, si11, gi12, si12, gi13, si13, gi14, si14, gi15, si15, ri0, ri1, ri2, ri3, ri4, ri5, ri6, ri7, ri8, ri9, ri10, ri11, ai0, ai1, ai2, ai3, ai4, ai5, ai6, ai7, ai8, ai9, List.map_cons, List.map_nil, List.cons_append, List.nil_append, List.append_nil, Option.map_some, R.bind_ok, Bool.not_true, Bool.not_false, if_true, if_false, Bool.false_eq_true, decide_true, decide_false, Nat.reduceSub, bindT, bindTs, List.length_cons, List.length_nil, sizeLine_eq, Nat.reduceAdd, Nat.reduceLeDiff, Nat.zero_add, decide_eq_true_eq, x_obj0, put0, put1, put2, ic0, ic1, ic2, ic3, ic4, ic5, ic6, ic7, ic8, ic9, ic10, ic11, ic12, ic13, ic14, ic15, ic16, ic17, ic18, ic19, ic20, ic21, ic22, ic23, Int.reduceEq, Int.reduceLT, Int.reduceLE, Int.reduceNeg, vB_var, vB_int, vB_str, vB_bl, vB_non, vB_glob, vB_tup, vB_lst, vB_dic0, vB_bin, vB_neg, vB_not, vB_and, vB_or, vB_cmp, vB_chain, vB_isN, vB_notN, vB_ifx, vB_sub, vB_slice, vB_call, vB_bi, vB_isi, vB_comp, vB_fmt, vB_fstr, vB_join, vB_own, rs_int, rs_str, rs_bl, rs_non, rs_tup, rs_lst, rs_dic, rs_scr, kFmt_ok, kJoin_ok, kJ_ok, kListM_ok, e_listM, e_fmt, e_fstr, e_join, j_nil, j_cons, kCmpC_ok, kCmpC_exc, s_ownAdd, s_appL, kOAdd_ok, kOAdd1_ok, addF_ok, sw_line_slide, sw_line_read, sw_line_try, sw_line_left, sw_line_right, sw_slide_line, sw_slide_read, sw_slide_try, sw_slide_left, sw_slide_right, sw_read_line, sw_read_slide, sw_read_try, sw_read_left, sw_read_right, sw_try_line, sw_try_slide, sw_try_read, sw_try_left, sw_try_right, sw_left_line, sw_left_slide, sw_left_read, sw_left_try, sw_left_right, sw_right_line, sw_right_slide, sw_right_read, sw_right_try, sw_right_left, it_lst, it_tup, kAppL_obj, kAppL1_ok, appF_ok, e_compI, cstep_ap, cst1_some, kCC_ok, kSome_ok, c_no, c_some, kCompI_ok, kCompE_ok, e_sset, e_lset, e_allL, i_seq, i_rng, i_rng2, i_enum, i_zip, kSeq_tup, kSeq_lst, kSeq_str, kSeq_exc, kRng2_ok, kEnum_lst, kZip_ok, kZip1_lst, vB_compI, vB_sset, vB_lset, vB_allL, rs_cdic, s_forI, s_ownExt, kForI_ok, kForI_exc, lstep_ap, lst1_some, kExt_lst, c_in, c_nin, s_aug, kAug_ok, au_add, au_sub, is_non_int, is_non_bool, is_non_str, is_non_tuple, is_non_list, is_non_dict, is_bl_int, is_bl_bool, is_bl_str, is_bl_tuple, is_bl_list, is_bl_dict, is_int_int, is_int_bool, is_int_str, is_int_tuple, is_int_list, is_int_dict, is_str_int, is_str_bool, is_str_str, is_str_tuple, is_str_list, is_str_dict, is_tup_int, is_tup_bool, is_tup_str, is_tup_tuple, is_tup_list, is_tup_dict, is_lst_int, is_lst_bool, is_lst_str, is_lst_tuple, is_lst_list, is_lst_dict, is_dic_int, is_dic_bool, is_dic_str, is_dic_tuple, is_dic_list, is_dic_dict, e_fld, e_prop, e_mcall, kFld_ok, kPrp_ok, kPrp1_some, kMth_ok, kMth1_some, kMth2_ok, rnox_ok, vB_fld, vB_prop, vB_mcall, s_setF, kSetF_ok, setFF_self, putD_nil])
local macro_rules | `(tactic| walk_at "pvh") => `(tactic| simp only [e_var, e_int, e_str, e_bl, e_non, e_glob, e_tup, e_lst, e_lstM, e_dic0, e_bin, e_neg, e_not, e_and, e_or, e_cmp, e_chain, e_isN, e_notN, e_ifx, e_sub, e_slice, e_call, e_bi, e_isi, e_comp, es_nil, es_cons, o_no, o_some, t_val, t_and, t_or, t_not, t_cmp, t_chain, t_isN, t_notN, kCons_ok, kCons_exc, kCons1_ok, kCons1_exc, kTup_ok, kTup_exc, kLst_ok, kLst_exc, kLstM_ok, kCall_ok, kCall_exc, kBin_ok, kBin_exc, kBin1_ok, kBin1_exc, kNeg_ok, kNot_ok, kNot_exc, kAnd_ok, kAnd_exc, kOr_ok, kOr_exc, kCmp_ok, kCmp_exc, kCmp1_ok, kCmp1_exc, kCh_ok, kCh1_ok, kCh2_some, kIf_ok, kIf_exc, kSub_ok, kSub_exc, kSub1_ok, kSub1_exc, kSl_ok, kSl1_ok, kSl2_ok, kBi_ok, kBi_exc, kIsi_ok, kTru_bl, kTru_exc, kTAnd_ok, kTAnd_exc, kTOr_ok, kTOr_exc, kTNot_ok, kTNot_exc, kTB_ok, kTB_exc, kInt_ok, kIsN_non, kNotN_non, ofO_some, ss_nil, ss_cons, s_expr, s_set, s_par, s_asg, s_putL, s_ownNew, s_ownApp, s_freeze, s_ret, s_retN, s_ite, s_whl, s_forN, s_forR, s_brk, s_cont, s_pass, s_raise, s_try, sq_nx, sq_rt, sq_bk, sq_ct, sq_exc, kExpr_ok, kExpr_exc, kSet_ok, kSet_exc, kPar_ok, kPar_exc, kPar1_ok, kPar1_exc, kAsg_ok, kAsg_exc, kPut_ok, kPut1_ok, kPut2_ok, kOwn_ok, kApp_ok, kRet_ok, kRet_exc, kSIf_ok, kSIf_exc, kFor_tup, kFor_lst, kRun_nx, kRun_rt, kRun_exc, kTry_ok, kTry_exc, nox_ok, eq_ii, eq_ss, si0, si1, si2, si3, si4, si5, si6, si7, si8, si9, si10, si11, si12, si13, si14, si15, b_add, b_sub, c_lt, c_le, c_gt, c_ge, eq_ii, eq_ss, c_eq, c_ne, k_abs, k_int, k_intB, k_lenT, k_lenL, k_lenS, x_tup, x_lst, gi0, si0, gi1, si1, gi2, si2, gi3, si3, gi4, si4, gi5, si5, gi6, si6, gi7, si7, gi8, si8, gi9, si9, gi10, si10, gi11, si11, gi12, si12, gi13, si13, gi14, si14, gi15, si15, ri0, ri1, ri2, ri3, ri4, ri5, ri6, ri7, ri8, ri9, ri10, ri11, ai0, ai1, ai2, ai3, ai4, ai5, ai6, ai7, ai8, ai9, List.map_cons, List.map_nil, List.cons_append, List.nil_append, List.append_nil, Option.map_some, R.bind_ok, Bool.not_true, Bool.not_false, if_true, if_false, Bool.false_eq_true, decide_true, decide_false, Nat.reduceSub, bindT, bindTs, List.length_cons, List.length_nil, sizeLine_eq, Nat.reduceAdd, Nat.reduceLeDiff, Nat.zero_add, decide_eq_true_eq, x_obj0, put0, put1, put2, ic0, ic1, ic2, ic3, ic4, ic5, ic6, ic7, ic8, ic9, ic10, ic11, ic12, ic13, ic14, ic15, ic16, ic17, ic18, ic19, ic20, ic21, ic22, ic23, Int.reduceEq, Int.reduceLT, Int.reduceLE, Int.reduceNeg, vB_var, vB_int, vB_str, vB_bl, vB_non, vB_glob, vB_tup, vB_lst, vB_dic0, vB_bin, vB_neg, vB_not, vB_and, vB_or, vB_cmp, vB_chain, vB_isN, vB_notN, vB_ifx, vB_sub, vB_slice, vB_call, vB_bi, vB_isi, vB_comp, vB_fmt, vB_fstr, vB_join, vB_own, rs_int, rs_str, rs_bl, rs_non, rs_tup, rs_lst, rs_dic, rs_scr, kFmt_ok, kJoin_ok, kJ_ok, kListM_ok, e_listM, e_fmt, e_fstr, e_join, j_nil, j_cons, kCmpC_ok, kCmpC_exc, s_ownAdd, s_appL, kOAdd_ok, kOAdd1_ok, addF_ok, sw_line_slide, sw_line_read, sw_line_try, sw_line_left, sw_line_right, sw_slide_line, sw_slide_read, sw_slide_try, sw_slide_left, sw_slide_right, sw_read_line, sw_read_slide, sw_read_try, sw_read_left, sw_read_right, sw_try_line, sw_try_slide, sw_try_read, sw_try_left, sw_try_right, sw_left_line, sw_left_slide, sw_left_read, sw_left_try, sw_left_right, sw_right_line, sw_right_slide, sw_right_read, sw_right_try, sw_right_left, it_lst, it_tup, kAppL_obj, kAppL1_ok, appF_ok, e_compI, cstep_ap, cst1_some, kCC_ok, kSome_ok, c_no, c_some, kCompI_ok, kCompE_ok, e_sset, e_lset, e_allL, i_seq, i_rng, i_rng2, i_enum, i_zip, kSeq_tup, kSeq_lst, kSeq_str, kSeq_exc, kRng2_ok, kEnum_lst, kZip_ok, kZip1_lst, vB_compI, vB_sset, vB_lset, vB_allL, rs_cdic, s_forI, s_ownExt, kForI_ok, kForI_exc, lstep_ap, lst1_some, kExt_lst, c_in, c_nin, s_aug, kAug_ok, au_add, au_sub, is_non_int, is_non_bool, is_non_str, is_non_tuple, is_non_list, is_non_dict, is_bl_int, is_bl_bool, is_bl_str, is_bl_tuple, is_bl_list, is_bl_dict, is_int_int, is_int_bool, is_int_str, is_int_tuple, is_int_list, is_int_dict, is_str_int, is_str_bool, is_str_str, is_str_tuple, is_str_list, is_str_dict, is_tup_int, is_tup_bool, is_tup_str, is_tup_tuple, is_tup_list, is_tup_dict, is_lst_int, is_lst_bool, is_lst_str, is_lst_tuple, is_lst_list, is_lst_dict, is_dic_int, is_dic_bool, is_dic_str, is_dic_tuple, is_dic_list, is_dic_dict, e_fld, e_prop, e_mcall, kFld_ok, kPrp_ok, kPrp1_some, kMth_ok, kMth1_some, kMth2_ok, rnox_ok, vB_fld, vB_prop, vB_mcall, s_setF, kSetF_ok, setFF_self, putD_nil, *])
section
open TL
variable {C : Cn} {t : Tbl}
/-! ### the law's own walk over all steps -/
def isTry : Stp → Bool
  | .tr _ _ => true
  | _ => false
theorem is_try_ok (ht : t "_law_is_try" = some d_law_is_try) (n : Nat) (st : S) (y : Stp) : callN C t (n + 1) "_law_is_try" [stD y] st = .ok (.bl (isTry y)) st := by
  rw [call_run ht rfl]
  simp only [d_law_is_try]
  cases y with
  | line sc i f => rw [stD]; walk_at "p"; rfl
  | slide sc i f => rw [stD]; walk_at "p"; rfl
  | read sc z => rw [stD]; walk_at "p"; rfl
  | tr a b => rw [← tr_eq]; walk_at "p"; rfl
mutual
def allS : Stp → List Stp
  | .tr a b => .tr a b :: (allL a ++ allL b)
  | .line sc k f => [.line sc k f]
  | .slide sc k f => [.slide sc k f]
  | .read sc z => [.read sc z]
def allL : List Stp → List Stp
  | [] => []
  | s :: l => allS s ++ allL l
end
mutual
theorem allS_num : ∀ (s : Stp) (n : Nat), (numS n s).map Prod.snd = allS s
  | .tr a b, n => by simp [numS, allS, allL_num a, allL_num b]
  | .line sc k f, n => by simp [numS, allS]
  | .slide sc k f, n => by simp [numS, allS]
  | .read sc z, n => by simp [numS, allS]
theorem allL_num : ∀ (l : List Stp) (n : Nat), (numL n l).map Prod.snd = allL l
  | [], n => by simp [numL, allL]
  | s :: l, n => by simp [numL, allL, allS_num s, allL_num l]
end
theorem allS_len (s : Stp) : (allS s).length = s.size := by rw [← allS_num s 0, List.length_map, numS_len]
theorem allL_len (l : List Stp) : (allL l).length = sizes l := by rw [← allL_num l 0, List.length_map, numL_len]
theorem all_of (hi : t "_law_is_try" = some d_law_is_try) (ht : t "_law_all" = some d_law_all) (st : S) {m : Nat} {l : List Stp} (hz : sizes l ≤ 1000)
    (ih : ∀ a b, Stp.tr a b ∈ l → callN C t (m + 1) "_law_all" [.tup (a.map stD)] st = .ok (.lst ((allL a).map stD)) st ∧ callN C t (m + 1) "_law_all" [.tup (b.map stD)] st = .ok (.lst ((allL b).map stD)) st) :
    callN C t (m + 2) "_law_all" [.tup (l.map stD)] st = .ok (.lst ((allL l).map stD)) st := by
  suffices h : W (callN C t (m + 2) "_law_all" [.tup (l.map stD)] st) fun d s => d = .lst ((allL l).map stD) ∧ s = st by
    obtain ⟨d, s, e, rfl, rfl⟩ := h
    exact e
  refine W_run ht rfl ?_
  simp only [d_law_all]
  walk_at "p"
  refine B_for (fun xs env s => ∃ (acc q : List Stp) (s2 : Sl), xs = q.map stD ∧ env = [.val (.tup (l.map stD)), .own (acc.map stD), s2] ∧ s = st ∧ acc ++ allL q = allL l ∧ acc.length + sizes q ≤ 1000 ∧ (∀ y ∈ q, y ∈ l))
    ⟨[], l, _, rfl, rfl, rfl, rfl, by simpa using hz, fun _ h => h⟩ ?_ ?_
  · rintro x xs env s ⟨acc, q, s2, e, rfl, rfl, hp, hl, hm⟩
    match q, e with
    | y :: q, e =>
      simp only [List.map_cons, List.cons.injEq] at e
      obtain ⟨rfl, rfl⟩ := e
      have hm' : ∀ z ∈ q, z ∈ l := fun z h => hm z (List.mem_cons_of_mem _ h)
      simp only [sizes] at hl
      have yp : 1 ≤ y.size := by cases y <;> simp [Stp.size]; omega
      simp only [d_law_all_b1]
      walk_at "p"
      rw [if_pos (by rw [List.length_map]; omega)]
      have e1 : acc.map stD ++ [stD y] = (acc ++ [y]).map stD := by rw [List.map_append]; rfl
      rw [e1]
      walk_at "p"
      rw [is_try_ok hi m s y]
      have fin : ∀ (env : DE), env = [.val (.tup (l.map stD)), .own ((acc ++ allS y).map stD), .val (stD y)] →
          ∃ (acc q' : List Stp) (s2 : Sl), q.map stD = q'.map stD ∧ env = [.val (.tup (l.map stD)), .own (acc.map stD), s2] ∧ s = s ∧ acc ++ allL q' = allL l ∧ acc.length + sizes q' ≤ 1000 ∧ (∀ y ∈ q', y ∈ l) := by
        intro env e
        refine ⟨acc ++ allS y, q, _, rfl, e, rfl, by rw [← hp, List.append_assoc]; rfl, ?_, hm'⟩
        rw [List.length_append, allS_len]; omega
      cases y with
      | line sc i f =>
        walk_at "p"
        exact B.nx (fin _ rfl)
      | slide sc i f =>
        walk_at "p"
        exact B.nx (fin _ rfl)
      | read sc z =>
        walk_at "p"
        exact B.nx (fin _ rfl)
      | tr a b =>
        simp only [Stp.size] at hl
        obtain ⟨ia, ib⟩ := ih a b (hm _ List.mem_cons_self)
        have eq1 : stD (.tr a b) = .tup [.str (Str.ofString "try"), .tup (a.map stD), .tup (b.map stD)] := tr_eq.symm
        have ea : isTry (.tr a b) = true := rfl
        have la := allL_len a
        have lb := allL_len b
        rw [eq1] at fin ⊢
        rw [ea]
        walk_at "p"
        rw [ia]
        walk_at "p"
        rw [b_addL (by rw [List.length_map, List.length_map, List.length_append, sizeLine_eq]; simp; omega), ← List.map_append]
        walk_at "p"
        rw [ib]
        walk_at "p"
        rw [if_pos (by rw [List.length_map, List.length_map, List.length_append, List.length_append]; simp; omega), ← List.map_append]
        have ef : acc ++ [Stp.tr a b] ++ allL a ++ allL b = acc ++ allS (.tr a b) := by
          rw [allS]
          simp only [List.append_assoc, List.cons_append, List.nil_append]
        rw [ef]
        exact B.nx (fin _ rfl)
  · rintro env s ⟨acc, q, s2, e, rfl, rfl, hp, _⟩
    have : q = [] := by simpa using e.symm
    subst this
    simp only [allL, List.append_nil] at hp
    subst hp
    walk_at "p"
    exact B.rt ⟨rfl, rfl⟩
theorem all_ok (hi : t "_law_is_try" = some d_law_is_try) (ht : t "_law_all" = some d_law_all) (st : S) : ∀ (dep m : Nat) (l : List Stp), depths l ≤ dep → sizes l ≤ 1000 → callN C t (m + dep + 2) "_law_all" [.tup (l.map stD)] st = .ok (.lst ((allL l).map stD)) st := by
  intro dep
  induction dep with
  | zero =>
    intro m l hd hz
    refine all_of hi ht st hz fun a b hm => ?_
    have := (size_mem hm).2
    simp only [Stp.depth] at this
    omega
  | succ dep ih =>
    intro m l hd hz
    refine all_of hi ht st hz fun a b hm => ?_
    have h1 := size_mem hm
    simp only [Stp.depth, Stp.size] at h1
    exact ⟨ih m a (by omega) (by omega), ih m b (by omega) (by omega)⟩
/-! ### a figure among names -/
theorem in_pair5 {B : Nat} {p : Int × Int} {z0 z1 z2 z3 z4 : Str} (h : ∀ z ∈ [z0, z1, z2, z3, z4], TX B z) : inD (pP p) (.lst [.str z0, .str z1, .str z2, .str z3, .str z4]) = some false := by
  simp only [List.mem_cons, List.not_mem_nil, or_false, forall_eq_or_imp, forall_eq] at h
  obtain ⟨h0, h1, h2, h3, h4⟩ := h
  refine (if_pos (by refine ⟨⟨?_, ?_⟩, ?_, ?_⟩ <;> simp [h0.ok, h1.ok, h2.ok, h3.ok, h4.ok, SeqAt.shaped, PyData.canLay0, PyData.canLayAll0, PyData.depth, PyData.depthAll, PyData.hasDict, PyData.hasDictAll])).trans ?_
  simp [PyData.eqv]
/-- all steps of a drawn working: names are drawn names -/
theorem scp_names {r : Rl} {xs ns k k' : List Str} {l : List Stp} (h : Scp r xs ns k l k') : (∀ z ∈ k, z ∈ ns) → (∀ s ∈ allL l, ∀ z, stF s = some (.nm z) → z ∈ xs ++ ns) ∧ ∀ z ∈ k', z ∈ ns := by
  induction h with
  | nil => exact fun hk => ⟨fun s hs => by simp [allL] at hs, hk⟩
  | @set k k' s l hs _ ih =>
    intro hk
    obtain ⟨h1, h2⟩ := ih hk
    refine ⟨?_, h2⟩
    have up : ∀ z ∈ xs ++ k, z ∈ xs ++ ns := fun z hz => by
      rcases List.mem_append.mp hz with q | q
      · exact List.mem_append_left _ q
      · exact List.mem_append_right _ (hk z q)
    intro y hy z e
    rw [allL] at hy
    rcases List.mem_append.mp hy with hy | hy
    · cases s with
      | line sc i f =>
        obtain ⟨q, hq, rfl, g1, g2, g3⟩ := hs
        rw [allS, List.mem_singleton] at hy
        subst hy
        simp only [stF, Option.some.injEq] at e
        subst e
        exact up z g3
      | slide sc i f =>
        obtain ⟨q, hq, rfl, g1, g2, g3⟩ := hs
        rw [allS, List.mem_singleton] at hy
        subst hy
        simp only [stF, Option.some.injEq] at e
        subst e
        exact up z g3
      | _ => exact hs.elim
    · exact h1 y hy z e
  | @read k k' sc z l hs hz _ _ ih =>
    intro hk
    obtain ⟨h1, h2⟩ := ih fun y hy => by
      rcases List.mem_append.mp hy with q | q
      · exact hk y q
      · rw [List.mem_singleton.mp q]; exact hz
    refine ⟨fun y hy w e => ?_, h2⟩
    rw [allL, allS] at hy
    rcases List.mem_append.mp hy with hy | hy
    · rw [List.mem_singleton] at hy
      subst hy
      cases e
    · exact h1 y hy w e
  | tr hne _ _ _ ih1 ih2 ih3 =>
    intro hk
    obtain ⟨a1, a2⟩ := ih1 hk
    obtain ⟨b1, b2⟩ := ih2 hk
    obtain ⟨c1, c2⟩ := ih3 fun z hz => a2 z (List.mem_filter.mp hz).1
    refine ⟨fun y hy w e => ?_, c2⟩
    rw [allL, allS] at hy
    rcases List.mem_append.mp hy with hy | hy
    · rcases List.mem_cons.mp hy with hy | hy
      · subst hy; cases e
      · rcases List.mem_append.mp hy with hy | hy
        · exact a1 y hy w e
        · exact b1 y hy w e
    · exact c1 y hy w e
mutual
theorem stx_allS : ∀ (s : Stp), StX s → ∀ y ∈ allS s, StX y
  | .tr a b, h, y, hy => by
    rw [allS] at hy
    have h' : (StXs a ∧ StXs b) ∧ a ≠ [] := by simpa only [StX] using h
    rcases List.mem_cons.mp hy with e | e
    · rw [e]; exact h
    · rcases List.mem_append.mp e with e | e
      · exact stx_allL a h'.1.1 y e
      · exact stx_allL b h'.1.2 y e
  | .line sc k f, h, y, hy => by rw [allS, List.mem_singleton] at hy; rw [hy]; exact h
  | .slide sc k f, h, y, hy => by rw [allS, List.mem_singleton] at hy; rw [hy]; exact h
  | .read sc z, h, y, hy => by rw [allS, List.mem_singleton] at hy; rw [hy]; exact h
theorem stx_allL : ∀ (l : List Stp), StXs l → ∀ y ∈ allL l, StX y
  | [], _, y, hy => by simp [allL] at hy
  | s :: l, h, y, hy => by
    rw [allL] at hy
    have h' : StX s ∧ StXs l := by simpa only [StXs] using h
    rcases List.mem_append.mp hy with e | e
    · exact stx_allS s h'.1 y e
    · exact stx_allL l h'.2 y e
end
theorem notesL_all (l : List Stp) : notesL l = (allL l).filterMap rdN := by
  rw [notesL, ← allL_num l 0, List.filterMap_map]
  rfl
theorem figsL_all (l : List Stp) : figsL l = (allL l).filterMap stF := by
  rw [figsL, ← allL_num l 0, List.filterMap_map]
  rfl
theorem figs_x {l : List Stp} (h : StXs l) : ∀ f ∈ figsL l, FigX f := by
  intro f hf
  rw [figsL_all] at hf
  obtain ⟨s, hs, e⟩ := List.mem_filterMap.mp hf
  have := stx_allL l h s hs
  cases s with
  | line sc i g => simp only [stF, Option.some.injEq] at e; subst e; exact this.2.2
  | slide sc i g => simp only [stF, Option.some.injEq] at e; subst e; exact this.2.2
  | read sc z => cases e
  | tr a b => cases e
/-! ### texts shown in tuples -/
theorem lfs_strs {B : Nat} (hb : B ≤ 100) : ∀ {zs : List Str}, (∀ z ∈ zs, TX B z) → lfs 1900 (zs.map PyData.str) = true
  | [], _ => rfl
  | z :: zs, h => by
    have hz := h z List.mem_cons_self
    have l := PySem.StrLaws.reprText_len z fun c hc => Nat.lt_trans (hz.2 c hc) (by decide)
    have h1 := hz.1
    rw [List.map_cons, lfs, lfs_strs hb fun y hy => h y (List.mem_cons_of_mem _ hy), Bool.and_true, lf, decide_eq_true_eq]
    omega
theorem depth_strs : ∀ zs : List Str, PyData.depthAll (zs.map PyData.str) ≤ 1
  | [] => by simp [PyData.depthAll]
  | z :: zs => by
    have := depth_strs zs
    simp only [List.map_cons, PyData.depthAll, PyData.depth]
    omega
theorem nods_strs : ∀ zs : List Str, nods (zs.map PyData.str) = zs.length
  | [] => rfl
  | z :: zs => by rw [List.map_cons, nods, nods_strs zs, List.length_cons, show nod (.str z) = 1 from by simp [nod]]; omega
theorem repr_tt {xs ys : List Str} {s : S} (hx : ∀ z ∈ xs, TX 5 z) (hy : ∀ z ∈ ys, TX 5 z) (lx : xs.length ≤ 100) (ly : ys.length ≤ 100) :
    biD s .repr (.tup [.tup (xs.map .str), .tup (ys.map .str)]) = some (.str (PyData.shown (.tuple [.tuple (xs.map PyData.str), .tuple (ys.map PyData.str)]))) := by
  have dx := depth_strs xs
  have dy := depth_strs ys
  refine k_repr ?_ ?_ ?_ ?_
  · simp only [D.pd, D.pds, pds_strs, Option.map_some]
  · simp only [lf, lfs, lfs_strs (by decide) hx, lfs_strs (by decide) hy, Bool.and_true]
  · simp only [PyData.depth, PyData.depthAll]; omega
  · simp only [nod, nods, nods_strs]; omega
theorem sset_mem {zs : List Str} {z : Str} : z ∈ ssetS zs ↔ z ∈ zs := (srt_perm _).mem_iff.trans dd_mem
theorem dd_len : ∀ l : List Str, (ddS l).length ≤ l.length
  | [] => Nat.le_refl _
  | x :: r => by
    have := dd_len r
    unfold ddS
    split
    · rw [List.length_cons]; omega
    · rw [List.length_cons, List.length_cons]; omega
theorem sset_len (zs : List Str) : (ssetS zs).length ≤ zs.length := by
  have h := (srt_perm (ddS zs)).length_eq
  have := dd_len zs
  unfold ssetS
  omega
def usN (s : Stp) : Option Str := match stF s with
  | some (.nm z) => some z
  | _ => none
theorem us_fold {L : Str} : ∀ {q : List Stp}, (∀ s ∈ q, ∀ z, stF s = some (.nm z) → nmB L z = true) → q.filterMap usN = (q.filterMap stF).filterMap (fgN L)
  | [], _ => rfl
  | s :: q, h => by
    have ih := us_fold (L := L) fun y hy => h y (List.mem_cons_of_mem _ hy)
    have hs := h s List.mem_cons_self
    rw [List.filterMap_cons, List.filterMap_cons, ih]
    cases e : stF s with
    | none => simp only [usN, e]
    | some f =>
      cases f with
      | nm z => simp only [usN, e, List.filterMap_cons, fgN, if_pos (hs z e)]
      | mk p => simp only [usN, e, List.filterMap_cons, fgN]
      | lft => simp only [usN, e, List.filterMap_cons, fgN]
      | rgt => simp only [usN, e, List.filterMap_cons, fgN]
theorem us_all {L : Str} {l : List Stp} (h : ∀ s ∈ allL l, ∀ z, stF s = some (.nm z) → nmB L z = true) : ((allL l).filterMap fun s => (usN s).map D.str) = (usedL L l).map .str := by
  rw [fmap_str, us_fold h, usedL, figsL_all]
theorem nt_all (l : List Stp) : ((allL l).filterMap fun s => (rdN s).map D.str) = (notesL l).map .str := by
  rw [fmap_str, notesL_all]
/-- the letters -/
def abc : Str := Str.ofString "abcdefghijklmnopqrstuvwxyz"
theorem abc_mem {c : Nat} (h0 : 97 ≤ c) (h1 : c ≤ 122) : c ∈ abc.cps.toList := by
  have e : abc.cps.toList = (List.range 26).map (97 + ·) := by decide +kernel
  rw [e]
  exact List.mem_map.mpr ⟨c - 97, List.mem_range.mpr (by omega), by omega⟩
theorem NmOk.nmB {c : Nat} {z : Str} (h : NmOk c z) (hc : c < 26) : nmB abc z = true := by
  have hl := h.len
  obtain ⟨l, rfl, h1, h2⟩ := h
  unfold PV.nmB
  rw [Bool.and_eq_true]
  refine ⟨decide_eq_true ⟨?_, hl⟩, ?_⟩
  · show 1 ≤ (((97 + c) :: l).toArray).size
    simp
  · rw [List.all_eq_true]
    intro a ha
    have ha' : a ∈ (97 + c) :: l := by simpa using ha
    refine decide_eq_true ?_
    rcases List.mem_cons.mp ha' with e | e
    · exact abc_mem (by omega) (by omega)
    · exact abc_mem (h2 a e).1 (h2 a e).2
theorem Names.abc {xs : List Str} (h : Names xs) : ∀ z ∈ xs, PV.nmB abc z = true := by
  obtain ⟨c, z0, z1, z2, z3, z4, h0, h1, rfl, n0, n1, n2, n3, n4⟩ := h.ex
  intro z hz
  simp only [List.mem_cons, List.not_mem_nil, or_false] at hz
  rcases hz with rfl | rfl | rfl | rfl | rfl
  · exact n0.nmB (by omega)
  · exact n1.nmB (by omega)
  · exact n2.nmB (by omega)
  · exact n3.nmB (by omega)
  · exact n4.nmB (by omega)
theorem nmB_left : nmB abc (Str.ofString "left") = false := by decide +kernel
theorem nmB_right : nmB abc (Str.ofString "right") = false := by decide +kernel
end
end PV

set_option Elab.async false
set_option linter.all false
set_option maxRecDepth 100000
set_option maxHeartbeats 1000000
set_option exponentiation.threshold 30000
set_option pp.maxSteps 600
set_option pp.deepTerms false
set_option pp.deepTerms.threshold 6
namespace PV
open PySem PySem.Spec PyProof.Rows L2
local macro_rules | `(tactic| walk_at "pv") => `(tactic| simp only [e_var, e_int, e_str, e_bl, e_non, e_glob, e_tup, e_lst, e_lstM, e_dic0, e_bin, e_neg, e_not, e_and, e_or, e_cmp, e_chain, e_isN, e_notN, e_ifx, e_sub, e_slice, e_call, e_bi, e_isi, e_comp, es_nil, es_cons, o_no, o_some, t_val, t_and, t_or, t_not, t_cmp, t_chain, t_isN, t_notN, kCons_ok, kCons_exc, kCons1_ok, kCons1_exc, kTup_ok, kTup_exc, kLst_ok, kLst_exc, kLstM_ok, kCall_ok, kCall_exc, kBin_ok, kBin_exc, kBin1_ok, kBin1_exc, kNeg_ok, kNot_ok, kNot_exc, kAnd_ok, kAnd_exc, kOr_ok, kOr_exc, kCmp_ok, kCmp_exc, kCmp1_ok, kCmp1_exc, kCh_ok, kCh1_ok, kCh2_some, kIf_ok, kIf_exc, kSub_ok, kSub_exc, kSub1_ok, kSub1_exc, kSl_ok, kSl1_ok, kSl2_ok, kBi_ok, kBi_exc, kIsi_ok, kTru_bl, kTru_exc, kTAnd_ok, kTAnd_exc, kTOr_ok, kTOr_exc, kTNot_ok, kTNot_exc, kTB_ok, kTB_exc, kInt_ok, kIsN_non, kNotN_non, ofO_some, ss_nil, ss_cons, s_expr, s_set, s_par, s_asg, s_putL, s_ownNew, s_ownApp, s_freeze, s_ret, s_retN, s_ite, s_whl, s_forN, s_forR, s_brk, s_cont, s_pass, s_raise, s_try, sq_nx, sq_rt, sq_bk, sq_ct, sq_exc, kExpr_ok, kExpr_exc, kSet_ok, kSet_exc, kPar_ok, kPar_exc, kPar1_ok, kPar1_exc, kAsg_ok, kAsg_exc, kPut_ok, kPut1_ok, kPut2_ok, kOwn_ok, kApp_ok, kRet_ok, kRet_exc, kSIf_ok, kSIf_exc, kFor_tup, kFor_lst, kRun_nx, kRun_rt, kRun_exc, kTry_ok, kTry_exc, nox_ok, eq_ii, eq_ss, si0, si1, si2, si3, si4, si5, si6, si7, si8, si9, si10, si11, si12, si13, si14, si15, b_add, b_sub, c_lt, c_le, c_gt, c_ge, eq_ii, eq_ss, c_eq, c_ne, k_abs, k_int, k_intB, k_lenT, k_lenL, k_lenS, x_tup, x_lst, gi0, si0, gi1, si1, gi2, si2, gi3, si3, gi4, si4, gi5, si5, gi6, si6, gi7, si7, gi8, si8, gi9, si9, gi10, si10, gi11, si11, gi12, si12, gi13, si13, gi14, si14, gi15, si15, ri0, ri1, ri2, ri3, ri4, ri5, ri6, ri7, ri8, ri9, ri10, ri11, ai0, ai1, ai2, ai3, ai4, ai5, ai6, ai7, ai8, ai9, List.map_cons, List.map_nil, List.cons_append, List.nil_append, List.append_nil, Option.map_some, R.bind_ok, Bool.not_true, Bool.not_false, if_true, if_false, Bool.false_eq_true, decide_true, decide_false, Nat.reduceSub, bindT, bindTs, List.length_cons, List.length_nil, sizeLine_eq, Nat.reduceAdd, Nat.reduceLeDiff, Nat.zero_add, decide_eq_true_eq, x_obj0, put0, put1, put2, ic0, ic1, ic2, ic3, ic4, ic5, ic6, ic7, ic8, ic9, ic10, ic11, ic12, ic13, ic14, ic15, ic16, ic17, ic18, ic19, ic20, ic21, ic22, ic23, Int.reduceEq, Int.reduceLT, Int.reduceLE, Int.reduceNeg, vB_var, vB_int, vB_str, vB_bl, vB_non, vB_glob, vB_tup, vB_lst, vB_dic0, vB_bin, vB_neg, vB_not, vB_and, vB_or, vB_cmp, vB_chain, vB_isN, vB_notN, vB_ifx, vB_sub, vB_slice, vB_call, vB_bi, vB_isi, vB_comp, vB_fmt, vB_fstr, vB_join, vB_own, rs_int, rs_str, rs_bl, rs_non, rs_tup, rs_lst, rs_dic, rs_scr, kFmt_ok, kJoin_ok, kJ_ok, kListM_ok, e_listM, e_fmt, e_fstr, e_join, j_nil, j_cons, kCmpC_ok, kCmpC_exc, s_ownAdd, s_appL, kOAdd_ok, kOAdd1_ok, addF_ok, sw_line_slide, sw_line_read, sw_line_try, sw_line_left, sw_line_right, sw_slide_line, sw_slide_read, sw_slide_try, sw_slide_left, sw_slide_right, sw_read_line, sw_read_slide, sw_read_try, sw_read_left, sw_read_right, sw_try_line, sw_try_slide, sw_try_read, sw_try_left, sw_try_right, sw_left_line, sw_left_slide, sw_left_read, sw_left_try, sw_left_right, sw_right_line, sw_right_slide, sw_right_read, sw_right_try, sw_right_left, it_lst, it_tup, kAppL_obj, kAppL1_ok, appF_ok, e_compI, cstep_ap, cst1_some, kCC_ok, kSome_ok, c_no, c_some, kCompI_ok, kCompE_ok, e_sset, e_lset, e_allL, i_seq, i_rng, i_rng2, i_enum, i_zip, kSeq_tup, kSeq_lst, kSeq_str, kSeq_exc, kRng2_ok, kEnum_lst, kZip_ok, kZip1_lst, vB_compI, vB_sset, vB_lset, vB_allL, rs_cdic, s_forI, s_ownExt, kForI_ok, kForI_exc, lstep_ap, lst1_some, kExt_lst, c_in, c_nin, s_aug, kAug_ok, au_add, au_sub, is_non_int, is_non_bool, is_non_str, is_non_tuple, is_non_list, is_non_dict, is_bl_int, is_bl_bool, is_bl_str, is_bl_tuple, is_bl_list, is_bl_dict, is_int_int, is_int_bool, is_int_str, is_int_tuple, is_int_list, is_int_dict, is_str_int, is_str_bool, is_str_str, is_str_tuple, is_str_list, is_str_dict, is_tup_int, is_tup_bool, is_tup_str, is_tup_tuple, is_tup_list, is_tup_dict, is_lst_int, is_lst_bool, is_lst_str, is_lst_tuple, is_lst_list, is_lst_dict, is_dic_int, is_dic_bool, is_dic_str, is_dic_tuple, is_dic_list, is_dic_dict, e_fld, e_prop, e_mcall, kFld_ok, kPrp_ok, kPrp1_some, kMth_ok, kMth1_some, kMth2_ok, rnox_ok, vB_fld, vB_prop, vB_mcall, s_setF, kSetF_ok, setFF_self, putD_nil])
local macro_rules | `(tactic| walk_at "p") => `(tactic| try simp only [e_var, e_int, e_str, e_bl, e_non, e_glob, e_tup, e_lst, e_lstM, e_dic0, e_bin, e_neg, e_not, e_and, e_or, e_cmp, e_chain, e_isN, e_notN, e_ifx, e_sub, e_slice, e_call, e_bi, e_isi, e_comp, es_nil, es_cons, o_no, o_some, t_val, t_and, t_or, t_not, t_cmp, t_chain, t_isN, t_notN, kCons_ok, kCons_exc, kCons1_ok, kCons1_exc, kTup_ok, kTup_exc, kLst_ok, kLst_exc, kLstM_ok, kCall_ok, kCall_exc, kBin_ok, kBin_exc, kBin1_ok, kBin1_exc, kNeg_ok, kNot_ok, kNot_exc, kAnd_ok, kAnd_exc, kOr_ok, kOr_exc, kCmp_ok, kCmp_exc, kCmp1_ok, kCmp1_exc, kCh_ok, kCh1_ok, kCh2_some, kIf_ok, kIf_exc, kSub_ok, kSub_exc, kSub1_ok, kSub1_exc, kSl_ok, kSl1_ok, kSl2_ok, kBi_ok, kBi_exc, kIsi_ok, kTru_bl, kTru_exc, kTAnd_ok, kTAnd_exc, kTOr_ok, kTOr_exc, kTNot_ok, kTNot_exc, kTB_ok, kTB_exc, kInt_ok, kIsN_non, kNotN_non, ofO_some, ss_nil, ss_cons, s_expr, s_set, s_par, s_asg, s_putL, s_ownNew, s_ownApp, s_freeze, s_ret, s_retN, s_ite, s_whl, s_forN, s_forR, s_brk, s_cont, s_pass, s_raise, s_try, sq_nx, sq_rt, sq_bk, sq_ct, sq_exc, kExpr_ok, kExpr_exc, kSet_ok, kSet_exc, kPar_ok, kPar_exc, kPar1_ok, kPar1_exc, kAsg_ok, kAsg_exc, kPut_ok, kPut1_ok, kPut2_ok, kOwn_ok, kApp_ok, kRet_ok, kRet_exc, kSIf_ok, kSIf_exc, kFor_tup, kFor_lst, kRun_nx, kRun_rt, kRun_exc, kTry_ok, kTry_exc, nox_ok, eq_ii, eq_ss, si0, si1, si2, si3, si4, si5, si6, si7, si8, si9, si10, si11, si12, si13, si14, si15, b_add, b_sub, c_lt, c_le, c_gt, c_ge, eq_ii, eq_ss, c_eq, c_ne, k_abs, k_int, k_intB, k_lenT, k_lenL, k_lenS, x_tup, x_lst, gi0, si0, gi1, si1, gi2, si2, gi3, si3, gi4, si4, gi5, si5, gi6, si6, gi7, si7, gi8, si8, gi9, si9, gi10, si10, gi11, si11, gi12, si12, gi13, si13, gi14, si14, gi15, si15, ri0, ri1, ri2, ri3, ri4, ri5, ri6, ri7, ri8, ri9, ri10, ri11, ai0, ai1, ai2, ai3, ai4, ai5, ai6, ai7, ai8, ai9, List.map_cons, List.map_nil, List.cons_append, List.nil_append, List.append_nil, Option.map_some, R.bind_ok, Bool.not_true, Bool.not_false, if_true, if_false, Bool.false_eq_true, decide_true, decide_false, Nat.reduceSub, bindT, bindTs, List.length_cons, List.length_nil, sizeLine_eq, Nat.reduceAdd, Nat.reduceLeDiff, Nat.zero_add, decide_eq_true_eq, x_obj0, put0, put1, put2, ic0, ic1, ic2, ic3, ic4, ic5, ic6, ic7, ic8, ic9, ic10, ic11, ic12, ic13, ic14, ic15, ic16, ic17, ic18, ic19, ic20, ic21, ic22, ic23, Int.reduceEq, Int.reduceLT, Int.reduceLE, Int.reduceNeg, vB_var, vB_int, vB_str, vB_bl, vB_non, vB_glob, vB_tup, vB_lst, vB_dic0, vB_bin, vB_neg, vB_not, vB_and, vB_or, vB_cmp, vB_chain, vB_isN, vB_notN, vB_ifx, vB_sub, vB_slice, vB_call, vB_bi, vB_isi, vB_comp, vB_fmt, vB_fstr, vB_join, vB_own, rs_int, rs_str, rs_bl, rs_non, rs_tup, rs_lst, rs_dic, rs_scr, kFmt_ok, kJoin_ok, kJ_ok, kListM_ok, e_listM, e_fmt, e_fstr, e_join, j_nil, j_cons, kCmpC_ok, kCmpC_exc, s_ownAdd, s_appL, kOAdd_ok, kOAdd1_ok, addF_ok, sw_line_slide, sw_line_read, sw_line_try, sw_line_left, sw_line_right, sw_slide_line, sw_slide_read, sw_slide_try, sw_slide_left, sw_slide_right, sw_read_line, sw_read_slide, sw_read_try, sw_read_left, sw_read_right, sw_try_line, sw_try_slide, sw_try_read, sw_try_left, sw_try_right, sw_left_line, sw_left_slide, sw_left_read, sw_left_try, sw_left_right, sw_right_line, sw_right_slide, sw_right_read, sw_right_try, sw_right_left, it_lst, it_tup, kAppL_obj, kAppL1_ok, appF_ok, e_compI, cstep_ap, cst1_some, kCC_ok, kSome_ok, c_no, c_some, kCompI_ok, kCompE_ok, e_sset, e_lset, e_allL, i_seq, i_rng, i_rng2, i_enum, i_zip, kSeq_tup, kSeq_lst, kSeq_str, kSeq_exc, kRng2_ok, kEnum_lst, kZip_ok, kZip1_lst, vB_compI, vB_sset, vB_lset, vB_allL, rs_cdic, s_forI, s_ownExt, kForI_ok, kForI_exc, lstep_ap, lst1_some, kExt_lst, c_in, c_nin, s_aug, kAug_ok, au_add, au_sub, is_non_int, is_non_bool, is_non_str, is_non_tuple, is_non_list, is_non_dict, is_bl_int, is_bl_bool, is_bl_str, is_bl_tuple, is_bl_list, is_bl_dict, is_int_int, is_int_bool, is_int_str, is_int_tuple, is_int_list, is_int_dict, is_str_int, is_str_bool, is_str_str, is_str_tuple, is_str_list, is_str_dict, is_tup_int, is_tup_bool, is_tup_str, is_tup_tuple, is_tup_list, is_tup_dict, is_lst_int, is_lst_bool, is_lst_str, is_lst_tuple, is_lst_list, is_lst_dict, is_dic_int, is_dic_bool, is_dic_str, is_dic_tuple, is_dic_list, is_dic_dict, e_fld, e_prop, e_mcall, kFld_ok, kPrp_ok, kPrp1_some, kMth_ok, kMth1_some, kMth2_ok, rnox_ok, vB_fld, vB_prop, vB_mcall, s_setF, kSetF_ok, setFF_self, putD_nil])
local macro_rules | `(tactic| walk_at "pvh") => `(tactic| simp only [e_var, e_int, e_str, e_bl, e_non, e_glob, e_tup, e_lst, e_lstM, e_dic0, e_bin, e_neg, e_not, e_and, e_or, e_cmp, e_chain, e_isN, e_notN, e_ifx, e_sub, e_slice, e_call, e_bi, e_isi, e_comp, es_nil, es_cons, o_no, o_some, t_val, t_and, t_or, t_not, t_cmp, t_chain, t_isN, t_notN, kCons_ok, kCons_exc, kCons1_ok, kCons1_exc, kTup_ok, kTup_exc, kLst_ok, kLst_exc, kLstM_ok, kCall_ok, kCall_exc, kBin_ok, kBin_exc, kBin1_ok, kBin1_exc, kNeg_ok, kNot_ok, kNot_exc, kAnd_ok, kAnd_exc, kOr_ok, kOr_exc, kCmp_ok, kCmp_exc, kCmp1_ok, kCmp1_exc, kCh_ok, kCh1_ok, kCh2_some, kIf_ok, kIf_exc, kSub_ok, kSub_exc, kSub1_ok, kSub1_exc, kSl_ok, kSl1_ok, kSl2_ok, kBi_ok, kBi_exc, kIsi_ok, kTru_bl, kTru_exc, kTAnd_ok, kTAnd_exc, kTOr_ok, kTOr_exc, kTNot_ok, kTNot_exc, kTB_ok, kTB_exc, kInt_ok, kIsN_non, kNotN_non, ofO_some, ss_nil, ss_cons, s_expr, s_set, s_par, s_asg, s_putL, s_ownNew, s_ownApp, s_freeze, s_ret, s_retN, s_ite, s_whl, s_forN, s_forR, s_brk, s_cont, s_pass, s_raise, s_try, sq_nx, sq_rt, sq_bk, sq_ct, sq_exc, kExpr_ok, kExpr_exc, kSet_ok, kSet_exc, kPar_ok, kPar_exc, kPar1_ok, kPar1_exc, kAsg_ok, kAsg_exc, kPut_ok, kPut1_ok, kPut2_ok, kOwn_ok, kApp_ok, kRet_ok, kRet_exc, kSIf_ok, kSIf_exc, kFor_tup, kFor_lst, kRun_nx, kRun_rt, kRun_exc, kTry_ok, kTry_exc, nox_ok, eq_ii, eq_ss, si0, si1, si2, si3, si4, si5, si6, si7, si8, si9, si10, si11, si12, si13, si14, si15, b_add, b_sub, c_lt, c_le, c_gt, c_ge, eq_ii, eq_ss, c_eq, c_ne, k_abs, k_int, k_intB, k_lenT, k_lenL, k_lenS, x_tup, x_lst, gi0, si0, gi1, si1, gi2, si2, gi3, si3, gi4, si4, gi5, si5, gi6, si6, gi7, si7, gi8, si8, gi9, si9, gi10, si10, gi11, si11, gi12, si12, gi13, si13, gi14, si14, gi15, si15, ri0, ri1, ri2, ri3, ri4, ri5, ri6, ri7, ri8, ri9, ri10, ri11, ai0, ai1, ai2, ai3, ai4, ai5, ai6, ai7, ai8, ai9, List.map_cons, List.map_nil, List.cons_append, List.nil_append, List.append_nil, Option.map_some, R.bind_ok, Bool.not_true, Bool.not_false, if_true, if_false, Bool.false_eq_true, decide_true, decide_false, Nat.reduceSub, bindT, bindTs, List.length_cons, List.length_nil, sizeLine_eq, Nat.reduceAdd, Nat.reduceLeDiff, Nat.zero_add, decide_eq_true_eq, x_obj0, put0, put1, put2, ic0, ic1, ic2, ic3, ic4, ic5, ic6, ic7, ic8, ic9, ic10, ic11, ic12, ic13, ic14, ic15, ic16, ic17, ic18, ic19, ic20, ic21, ic22, ic23, Int.reduceEq, Int.reduceLT, Int.reduceLE, Int.reduceNeg, vB_var, vB_int, vB_str, vB_bl, vB_non, vB_glob, vB_tup, vB_lst, vB_dic0, vB_bin, vB_neg, vB_not, vB_and, vB_or, vB_cmp, vB_chain, vB_isN, vB_notN, vB_ifx, vB_sub, vB_slice, vB_call, vB_bi, vB_isi, vB_comp, vB_fmt, vB_fstr, vB_join, vB_own, rs_int, rs_str, rs_bl, rs_non, rs_tup, rs_lst, rs_dic, rs_scr, kFmt_ok, kJoin_ok, kJ_ok, kListM_ok, e_listM, e_fmt, e_fstr, e_join, j_nil, j_cons, kCmpC_ok, kCmpC_exc, s_ownAdd, s_appL, kOAdd_ok, kOAdd1_ok, addF_ok, sw_line_slide, sw_line_read, sw_line_try, sw_line_left, sw_line_right, sw_slide_line, sw_slide_read, sw_slide_try, sw_slide_left, sw_slide_right, sw_read_line, sw_read_slide, sw_read_try, sw_read_left, sw_read_right, sw_try_line, sw_try_slide, sw_try_read, sw_try_left, sw_try_right, sw_left_line, sw_left_slide, sw_left_read, sw_left_try, sw_left_right, sw_right_line, sw_right_slide, sw_right_read, sw_right_try, sw_right_left, it_lst, it_tup, kAppL_obj, kAppL1_ok, appF_ok, e_compI, cstep_ap, cst1_some, kCC_ok, kSome_ok, c_no, c_some, kCompI_ok, kCompE_ok, e_sset, e_lset, e_allL, i_seq, i_rng, i_rng2, i_enum, i_zip, kSeq_tup, kSeq_lst, kSeq_str, kSeq_exc, kRng2_ok, kEnum_lst, kZip_ok, kZip1_lst, vB_compI, vB_sset, vB_lset, vB_allL, rs_cdic, s_forI, s_ownExt, kForI_ok, kForI_exc, lstep_ap, lst1_some, kExt_lst, c_in, c_nin, s_aug, kAug_ok, au_add, au_sub, is_non_int, is_non_bool, is_non_str, is_non_tuple, is_non_list, is_non_dict, is_bl_int, is_bl_bool, is_bl_str, is_bl_tuple, is_bl_list, is_bl_dict, is_int_int, is_int_bool, is_int_str, is_int_tuple, is_int_list, is_int_dict, is_str_int, is_str_bool, is_str_str, is_str_tuple, is_str_list, is_str_dict, is_tup_int, is_tup_bool, is_tup_str, is_tup_tuple, is_tup_list, is_tup_dict, is_lst_int, is_lst_bool, is_lst_str, is_lst_tuple, is_lst_list, is_lst_dict, is_dic_int, is_dic_bool, is_dic_str, is_dic_tuple, is_dic_list, is_dic_dict, e_fld, e_prop, e_mcall, kFld_ok, kPrp_ok, kPrp1_some, kMth_ok, kMth1_some, kMth2_ok, rnox_ok, vB_fld, vB_prop, vB_mcall, s_setF, kSetF_ok, setFF_self, putD_nil, *])
def d_is_mantissa : Df := ⟨1, 1, [],
    (.cons (.ret (.and (.call "is_fraction" (.cons (.var 0) .nil)) (.chain .le .lt (.int 0) (.sub (.var 0) (.int 0)) (.sub (.var 0) (.int 1)))))
    .nil), false⟩
def d_is_figure : Df := ⟨2, 2, [],
    (.cons (.ite (.and (.val (.isi (.var 0) .str)) (.cmp .in_ (.var 0) (.glob "ENDS")))
    (.cons (.ret (.cmp .eq (.var 1) (.int 0)))
    .nil)
    .nil)
    (.cons (.ret (.or (.call "is_name" (.cons (.var 0) .nil)) (.call "is_mantissa" (.cons (.var 0) .nil))))
    .nil)), false⟩
def d_setting_word : Df := ⟨1, 1, [],
    (.cons (.ite (.not (.val (.call "is_scale_name" (.cons (.sub (.var 0) (.int 1)) .nil))))
    (.cons (.ret (.str "scale"))
    .nil)
    .nil)
    (.cons (.ite (.or (.not (.val (.call "is_integer" (.cons (.sub (.var 0) (.int 2)) .nil)))) (.not (.chain .le .lt (.int 0) (.sub (.var 0) (.int 2)) (.glob "MAX_TURNS"))))
    (.cons (.ret (.str "stretch"))
    .nil)
    .nil)
    (.cons (.ret (.ifx (.val (.call "is_figure" (.cons (.sub (.var 0) (.int 3)) (.cons (.sub (.var 0) (.int 2)) .nil)))) .non (.str "figure")))
    .nil))), false⟩
def d_parts_word : Df := ⟨2, 2, [],
    (.cons (.ite (.or (.not (.val (.isi (.sub (.var 0) (.int 1)) .tuple))) (.or (.cmp .eq (.sub (.var 0) (.int 1)) (.tup .nil)) (.not (.val (.isi (.sub (.var 0) (.int 2)) .tuple)))))
    (.cons (.ret (.str "parts"))
    .nil)
    .nil)
    (.cons (.ret (.ifx (.cmp .ge (.var 1) (.glob "MAX_DEPTH")) (.str "deep") .non))
    .nil)), false⟩
def d_step_word : Df := ⟨2, 2, [],
    (.cons (.ite (.or (.not (.val (.isi (.var 0) .tuple))) (.or (.cmp .eq (.bi .len (.var 0)) (.int 0)) (.not (.val (.isi (.sub (.var 0) (.int 0)) .str)))))
    (.cons (.ret (.str "step"))
    .nil)
    .nil)
    (.cons (.ite (.or (.cmp .nin (.sub (.var 0) (.int 0)) (.glob "LENGTHS")) (.cmp .ne (.bi .len (.var 0)) (.sub (.glob "LENGTHS") (.sub (.var 0) (.int 0)))))
    (.cons (.ret (.str "step"))
    .nil)
    .nil)
    (.cons (.ite (.cmp .eq (.sub (.var 0) (.int 0)) (.str "try"))
    (.cons (.ret (.call "parts_word" (.cons (.var 0) (.cons (.var 1) .nil))))
    .nil)
    .nil)
    (.cons (.ite (.cmp .eq (.sub (.var 0) (.int 0)) (.str "read"))
    (.cons (.ite (.not (.val (.call "is_scale_name" (.cons (.sub (.var 0) (.int 1)) .nil))))
    (.cons (.ret (.str "scale"))
    .nil)
    .nil)
    (.cons (.ret (.ifx (.val (.call "is_name" (.cons (.sub (.var 0) (.int 2)) .nil))) .non (.str "name")))
    .nil))
    .nil)
    (.cons (.ret (.call "setting_word" (.cons (.var 0) .nil)))
    .nil))))), false⟩
def d_first_wrong_b1 : Ss := (.cons (.asg (.tup (.cons (.nm 6) (.cons (.nm 1) .nil))) (.call "first_wrong" (.cons (.var 5) (.cons (.var 1) (.cons (.bin .add (.var 2) (.int 1)) .nil)))))
    (.cons (.ite (.notN (.var 6))
    (.cons (.ret (.tup (.cons (.var 6) (.cons (.var 1) .nil))))
    .nil)
    .nil)
    .nil))
def d_first_wrong_b2 : Ss := (.cons (.set 4 (.call "step_word" (.cons (.var 3) (.cons (.var 2) .nil))))
    (.cons (.ite (.notN (.var 4))
    (.cons (.ret (.tup (.cons (.tup (.cons (.var 1) (.cons (.var 4) .nil))) (.cons (.var 1) .nil))))
    .nil)
    .nil)
    (.cons (.aug 1 .add (.int 1))
    (.cons (.ite (.cmp .eq (.sub (.var 3) (.int 0)) (.str "try"))
    (.cons (.for_ (.nm 5) (.slice (.var 3) (.some (.int 1)) .no) d_first_wrong_b1)
    .nil)
    .nil)
    .nil))))
def d_first_wrong : Df := ⟨7, 3, [],
    (.cons (.for_ (.nm 3) (.var 0) d_first_wrong_b2)
    (.cons (.ret (.tup (.cons .non (.cons (.var 1) .nil))))
    .nil)), false⟩
def d_is_ended : Df := ⟨2, 1, [],
    (.cons (.ite (.cmp .eq (.var 0) (.tup .nil))
    (.cons (.ret (.bl false))
    .nil)
    .nil)
    (.cons (.set 1 (.sub (.var 0) (.neg (.int 1))))
    (.cons (.ite (.cmp .eq (.sub (.var 1) (.int 0)) (.str "try"))
    (.cons (.ret (.and (.call "is_ended" (.cons (.sub (.var 1) (.int 1)) .nil)) (.call "is_ended" (.cons (.sub (.var 1) (.int 2)) .nil))))
    .nil)
    .nil)
    (.cons (.ret (.cmp .eq (.sub (.var 1) (.int 0)) (.str "read")))
    .nil)))), false⟩
def d_is_out_of_scope : Df := ⟨3, 3, [],
    (.cons (.ite (.cmp .eq (.sub (.var 0) (.int 0)) (.str "read"))
    (.cons (.ret (.cmp .in_ (.sub (.var 0) (.int 2)) (.var 1)))
    .nil)
    .nil)
    (.cons (.ret (.and (.call "is_name" (.cons (.sub (.var 0) (.int 3)) .nil)) (.and (.cmp .in_ (.sub (.var 0) (.int 3)) (.var 2)) (.cmp .nin (.sub (.var 0) (.int 3)) (.var 1)))))
    .nil)), false⟩
def d_scope_b1 : Ss := (.cons (.ite (.cmp .eq (.sub (.var 4) (.int 0)) (.str "try"))
    (.cons (.asg (.tup (.cons (.nm 5) (.cons (.nm 6) .nil))) (.call "scope" (.cons (.sub (.var 4) (.int 1)) (.cons (.bin .add (.var 1) (.int 1)) (.cons (.var 2) (.cons (.var 3) .nil))))))
    (.cons (.ite (.notN (.var 5))
    (.cons (.ret (.tup (.cons (.var 5) (.cons (.var 2) .nil))))
    .nil)
    .nil)
    (.cons (.asg (.tup (.cons (.nm 5) (.cons (.nm 7) .nil))) (.call "scope" (.cons (.sub (.var 4) (.int 2)) (.cons (.bin .add (.bin .add (.var 1) (.int 1)) (.call "count_steps" (.cons (.sub (.var 4) (.int 1)) .nil))) (.cons (.var 2) (.cons (.var 3) .nil))))))
    (.cons (.ite (.notN (.var 5))
    (.cons (.ret (.tup (.cons (.var 5) (.cons (.var 2) .nil))))
    .nil)
    .nil)
    (.cons (.set 2 (.compI (.var 8) (.nm 8) (.seq (.var 6)) (.some (.cmp .in_ (.var 8) (.var 7)))))
    .nil)))))
    (.cons (.ite (.val (.call "is_out_of_scope" (.cons (.var 4) (.cons (.var 2) (.cons (.var 3) .nil)))))
    (.cons (.ret (.tup (.cons (.var 1) (.cons (.var 2) .nil))))
    .nil)
    (.cons (.ite (.cmp .eq (.sub (.var 4) (.int 0)) (.str "read"))
    (.cons (.set 2 (.bin .add (.var 2) (.lst (.cons (.sub (.var 4) (.int 2)) .nil))))
    .nil)
    .nil)
    .nil))
    .nil))
    (.cons (.aug 1 .add (.call "count_steps" (.cons (.tup (.cons (.var 4) .nil)) .nil)))
    .nil))
def d_scope : Df := ⟨9, 4, [],
    (.cons (.for_ (.nm 4) (.var 0) d_scope_b1)
    (.cons (.ret (.tup (.cons .non (.cons (.var 2) .nil))))
    .nil)), false⟩
def d_working_error : Df := ⟨5, 1, [],
    (.cons (.ite (.not (.val (.isi (.var 0) .tuple)))
    (.cons (.ret (.tup (.cons .non (.cons (.str "working") .nil))))
    .nil)
    .nil)
    (.cons (.asg (.tup (.cons (.nm 1) (.cons (.nm 2) .nil))) (.call "first_wrong" (.cons (.var 0) (.cons (.int 0) (.cons (.int 0) .nil)))))
    (.cons (.ite (.notN (.var 1))
    (.cons (.ret (.var 1))
    .nil)
    .nil)
    (.cons (.ite (.cmp .gt (.var 2) (.glob "MAX_STEPS"))
    (.cons (.ret (.tup (.cons .non (.cons (.str "many") .nil))))
    .nil)
    .nil)
    (.cons (.ite (.not (.val (.call "is_ended" (.cons (.var 0) .nil))))
    (.cons (.ret (.tup (.cons .non (.cons (.str "end") .nil))))
    .nil)
    .nil)
    (.cons (.asg (.tup (.cons (.nm 3) (.cons (.nm 4) .nil))) (.call "scope" (.cons (.var 0) (.cons (.int 0) (.cons (.lst .nil) (.cons (.call "notes_of" (.cons (.var 0) .nil)) .nil))))))
    (.cons (.ite (.notN (.var 3))
    (.cons (.ret (.tup (.cons (.var 3) (.cons (.str "scope") .nil))))
    .nil)
    .nil)
    (.cons (.ret (.ifx (.cmp .gt (.bi .len (.call "operands_of" (.cons (.var 0) .nil))) (.glob "MAX_OPERANDS")) (.tup (.cons .non (.cons (.str "operands") .nil))) .non))
    .nil)))))))), false⟩
def d_law_scope_b1 : Ss := (.cons (.ite (.cmp .eq (.sub (.var 4) (.int 0)) (.str "try"))
    (.cons (.asg (.tup (.cons (.nm 5) (.cons (.nm 6) .nil))) (.call "_law_scope" (.cons (.sub (.var 4) (.int 1)) (.cons (.bin .add (.var 1) (.int 1)) (.cons (.var 2) (.cons (.var 3) .nil))))))
    (.cons (.ite (.notN (.var 5))
    (.cons (.ret (.tup (.cons (.var 5) (.cons (.var 2) .nil))))
    .nil)
    .nil)
    (.cons (.asg (.tup (.cons (.nm 5) (.cons (.nm 7) .nil))) (.call "_law_scope" (.cons (.sub (.var 4) (.int 2)) (.cons (.bin .add (.bin .add (.var 1) (.int 1)) (.call "_law_size" (.cons (.sub (.var 4) (.int 1)) .nil))) (.cons (.var 2) (.cons (.var 3) .nil))))))
    (.cons (.ite (.notN (.var 5))
    (.cons (.ret (.tup (.cons (.var 5) (.cons (.var 2) .nil))))
    .nil)
    .nil)
    (.cons (.set 2 (.compI (.var 8) (.nm 8) (.seq (.var 6)) (.some (.cmp .in_ (.var 8) (.var 7)))))
    .nil)))))
    (.cons (.ite (.cmp .eq (.sub (.var 4) (.int 0)) (.str "read"))
    (.cons (.ite (.cmp .in_ (.sub (.var 4) (.int 2)) (.var 2))
    (.cons (.ret (.tup (.cons (.var 1) (.cons (.var 2) .nil))))
    .nil)
    .nil)
    (.cons (.set 2 (.bin .add (.var 2) (.lst (.cons (.sub (.var 4) (.int 2)) .nil))))
    .nil))
    (.cons (.ite (.and (.cmp .in_ (.sub (.var 4) (.int 3)) (.var 3)) (.cmp .nin (.sub (.var 4) (.int 3)) (.var 2)))
    (.cons (.ret (.tup (.cons (.var 1) (.cons (.var 2) .nil))))
    .nil)
    .nil)
    .nil))
    .nil))
    (.cons (.set 1 (.bin .add (.var 1) (.call "_law_size" (.cons (.tup (.cons (.var 4) .nil)) .nil))))
    .nil))
def d_law_scope : Df := ⟨9, 4, [],
    (.cons (.for_ (.nm 4) (.var 0) d_law_scope_b1)
    (.cons (.ret (.tup (.cons .non (.cons (.var 2) .nil))))
    .nil)), false⟩
section
open TL
variable {C : Cn} {t : Tbl}
/-! ### fractions and mantissas told -/
structure FrT (t : Tbl) : Prop where
  ii : t "is_integer" = some d_is_integer
  cd : t "common_divisor" = some d_common_divisor
  fr : t "is_fraction" = some d_is_fraction
theorem isfr_pair (ft : FrT t) (n : Nat) {a b : Int} (hz : b.natAbs < 2 ^ 64) (st : S) : callN C t (n + 2) "is_fraction" [.tup [.int a, .int b]] st = .ok (.bl (decide (0 < b ∧ Int.gcd a b = 1))) st := by
  rw [call_run ft.fr rfl]
  have h1 := is_integer_int (C := C) ft.ii n a st
  have h2 := is_integer_int (C := C) ft.ii n b st
  by_cases h0 : b < 1
  · have e : decide (0 < b ∧ Int.gcd a b = 1) = false := decide_eq_false (by omega)
    rw [e]
    simp only [d_is_fraction]
    walk_at "pvh"
  · have h3 := common_divisor_ok (C := C) ft.cd n (a := (a.natAbs : Int)) (b := b) (by omega) (by omega) (Nat.lt_of_lt_of_le hz (Nat.pow_le_pow_right (by decide) (by decide))) st
    have hg : Int.gcd (a.natAbs : Int) b = Int.gcd a b := by
      show Nat.gcd (Int.natAbs _) (Int.natAbs _) = _
      rw [Int.natAbs_natCast]
      rfl
    rw [hg] at h3
    have e : decide (0 < b ∧ Int.gcd a b = 1) = decide (((Int.gcd a b : Nat) : Int) = 1) := by
      by_cases hg1 : Int.gcd a b = 1
      · rw [decide_eq_true (by omega), decide_eq_true (by omega)]
      · rw [decide_eq_false (by omega), decide_eq_false (by omega)]
    rw [e]
    simp only [d_is_fraction]
    walk_at "pvh"
theorem is_mant_ok (ft : FrT t) (hm : t "is_mantissa" = some d_is_mantissa) (n : Nat) {p : Int × Int} (hp : Mant p) (st : S) : callN C t (n + 3) "is_mantissa" [pP p] st = .ok (.bl true) st := by
  have a1 := hp.lo
  have a2 := hp.hi
  have a3 := hp.top
  have h := isfr_pair (C := C) ft n (a := p.1) (b := p.2) (by omega) st
  rw [decide_eq_true ⟨by omega, hp.one⟩] at h
  rw [call_run hm rfl]
  simp only [d_is_mantissa, pP]
  walk_at "p"
  rw [h]
  walk_at "p"
  simp only [a1, a2]
  walk_at "p"
/-! ### the words of a step -/
/-- the capital letters -/
def ABC : Str := Str.ofString "ABCDEFGHIJKLMNOPQRSTUVWXYZ"
/-- what working_error needs -/
structure WE (C : Cn) (t : Tbl) : Prop where
  ft : FrT t
  nc : NmC C t abc
  sn : ∃ mx ls, C.con mx = some (.int 3) ∧ C.con ls = some (.str ABC) ∧ t "is_scale_name" = some (d_isNm mx ls)
  turns : C.con "MAX_TURNS" = some (.int 3)
  stp : C.con "MAX_STEPS" = some (.int 10)
  deep : C.con "MAX_DEPTH" = some (.int 2)
  opr : C.con "MAX_OPERANDS" = some (.int 3)
  ends : C.con "ENDS" = some (D.tup [.str (Str.ofString "left"), .str (Str.ofString "right")])
  lens : C.con "LENGTHS" = some (D.cdic [(Str.ofString "line", 4), (Str.ofString "slide", 4), (Str.ofString "read", 3), (Str.ofString "try", 3)])
  mant : t "is_mantissa" = some d_is_mantissa
  fig : t "is_figure" = some d_is_figure
  setw : t "setting_word" = some d_setting_word
  parw : t "parts_word" = some d_parts_word
  stpw : t "step_word" = some d_step_word
  fstw : t "first_wrong" = some d_first_wrong
  num : t "numbered" = some d_numbered
  cnt : t "count_steps" = some d_count_steps
  isen : t "is_ended" = some d_is_ended
  nts : t "notes_of" = some d_notes_of
  used : t "used_names" = some d_used_names
  ops : t "operands_of" = some d_operands_of
  oos : t "is_out_of_scope" = some d_is_out_of_scope
  sco : t "scope" = some d_scope
  werr : t "working_error" = some d_working_error
def FigW (k : Int) : Fig → Prop
  | .nm z => nmB abc z = true
  | .mk p => Mant p
  | .lft => k = 0
  | .rgt => k = 0
mutual
def StW : Stp → Prop
  | .line sc k f => nmB ABC sc = true ∧ (0 ≤ k ∧ k < 3) ∧ FigW k f
  | .slide sc k f => nmB ABC sc = true ∧ (0 ≤ k ∧ k < 3) ∧ FigW k f
  | .read sc z => nmB ABC sc = true ∧ nmB abc z = true
  | .tr a b => a ≠ [] ∧ StWs a ∧ StWs b
def StWs : List Stp → Prop
  | [] => True
  | s :: l => StW s ∧ StWs l
end
theorem StWs.mem : ∀ {l : List Stp}, StWs l → ∀ s ∈ l, StW s
  | s :: l, h, q, hq => by
    simp only [StWs] at h
    rcases List.mem_cons.mp hq with e | e
    · rw [e]; exact h.1
    · exact StWs.mem h.2 q e
theorem nmB_len {L z : Str} (h : nmB L z = true) : 1 ≤ z.length ∧ z.length ≤ 3 := by
  unfold nmB at h
  rw [Bool.and_eq_true] at h
  exact of_decide_eq_true h.1
theorem name_ok (w : WE C t) (n : Nat) (st : S) {z : Str} (h : nmB abc z = true) : callN C t (n + 1) "is_name" [.str z] st = .ok (.bl true) st := by
  obtain ⟨mx, ls, h1, h2, h3⟩ := w.nc.ex
  rw [isNm_str h1 h2 h3 n st (by have := nmB_len h; omega), h]
theorem scale_ok (w : WE C t) (n : Nat) (st : S) {z : Str} (h : nmB ABC z = true) : callN C t (n + 1) "is_scale_name" [.str z] st = .ok (.bl true) st := by
  obtain ⟨mx, ls, h1, h2, h3⟩ := w.sn
  rw [isNm_str h1 h2 h3 n st (by have := nmB_len h; omega), h]
theorem in_ends {z : Str} : inD (.str z) (D.tup [.str (Str.ofString "left"), .str (Str.ofString "right")]) = some (decide (z ∈ [Str.ofString "left", Str.ofString "right"])) := in_tup (zs := [Str.ofString "left", Str.ofString "right"])
theorem nm_ends {z : Str} (h : nmB abc z = true) : z ∉ [Str.ofString "left", Str.ofString "right"] := by
  intro q
  simp only [List.mem_cons, List.not_mem_nil, or_false] at q
  rcases q with rfl | rfl
  · rw [nmB_left] at h; cases h
  · rw [nmB_right] at h; cases h
theorem figure_ok (w : WE C t) (n : Nat) (st : S) {k : Int} {f : Fig} (h : FigW k f) : callN C t (n + 4) "is_figure" [figD f, .int k] st = .ok (.bl true) st := by
  have he := w.ends
  rw [call_run w.fig rfl]
  simp only [d_is_figure]
  cases f with
  | nm z =>
    have h1 := name_ok w (n + 2) st h
    simp only [figD]
    walk_at "p"
    rw [he]
    walk_at "p"
    rw [in_ends, decide_eq_false (nm_ends h)]
    walk_at "p"
    rw [h1]
    walk_at "p"
  | lft =>
    have h' : k = 0 := h
    subst h'
    simp only [figD]
    walk_at "p"
    rw [he]
    walk_at "p"
    rw [in_ends, decide_eq_true (by simp)]
    walk_at "p"
  | rgt =>
    have h' : k = 0 := h
    subst h'
    simp only [figD]
    walk_at "p"
    rw [he]
    walk_at "p"
    rw [in_ends, decide_eq_true (by simp)]
    walk_at "p"
  | mk p =>
    obtain ⟨mx, ls, g1, g2, g3⟩ := w.nc.ex
    have h1 : callN C t (n + 3) "is_name" [pP p] st = .ok (.bl false) st := isNm_no g3 (n + 2) st rfl
    have h2 := is_mant_ok (C := C) w.ft w.mant n (p := p) h st
    simp only [figD, pP] at h1 h2 ⊢
    walk_at "p"
    rw [h1]
    walk_at "p"
    rw [h2]
    walk_at "p"
theorem setting_word_ok (w : WE C t) (n : Nat) (st : S) {x sc : Str} {k : Int} {f : Fig} (h1 : nmB ABC sc = true) (h2 : 0 ≤ k ∧ k < 3) (h3 : FigW k f) : callN C t (n + 5) "setting_word" [.tup [.str x, .str sc, .int k, figD f]] st = .ok .non st := by
  have a1 := scale_ok w (n + 3) st h1
  have a2 := is_integer_int (C := C) w.ft.ii (n + 3) k st
  have a3 := figure_ok w n st h3
  have b1 := h2.1
  have b2 := h2.2
  rw [call_run w.setw rfl]
  simp only [d_setting_word]
  walk_at "p"
  rw [a1]
  walk_at "p"
  rw [a2]
  walk_at "p"
  rw [w.turns]
  walk_at "p"
  simp only [b1, b2]
  walk_at "p"
  rw [a3]
  walk_at "p"
end
end PV

set_option Elab.async false
set_option linter.all false
set_option maxRecDepth 100000
set_option maxHeartbeats 1000000
set_option exponentiation.threshold 30000
set_option pp.maxSteps 600
set_option pp.deepTerms false
set_option pp.deepTerms.threshold 6
namespace PV
open PySem PySem.Spec PyProof.Rows L2
local macro_rules | `(tactic| walk_at "pv") => `(tactic| simp only [e_var, e_int, e_str, e_bl, e_non, e_glob, e_tup, e_lst, e_lstM, e_dic0, e_bin, e_neg, e_not, e_and, e_or, e_cmp, e_chain, e_isN, e_notN, e_ifx, e_sub, e_slice, e_call, e_bi, e_isi, e_comp, es_nil, es_cons, o_no, o_some, t_val, t_and, t_or, t_not, t_cmp, t_chain, t_isN, t_notN, kCons_ok, kCons_exc, kCons1_ok, kCons1_exc, kTup_ok, kTup_exc, kLst_ok, kLst_exc, kLstM_ok, kCall_ok, kCall_exc, kBin_ok, kBin_exc, kBin1_ok, kBin1_exc, kNeg_ok, kNot_ok, kNot_exc, kAnd_ok, kAnd_exc, kOr_ok, kOr_exc, kCmp_ok, kCmp_exc, kCmp1_ok, kCmp1_exc, kCh_ok, kCh1_ok, kCh2_some, kIf_ok, kIf_exc, kSub_ok, kSub_exc, kSub1_ok, kSub1_exc, kSl_ok, kSl1_ok, kSl2_ok, kBi_ok, kBi_exc, kIsi_ok, kTru_bl, kTru_exc, kTAnd_ok, kTAnd_exc, kTOr_ok, kTOr_exc, kTNot_ok, kTNot_exc, kTB_ok, kTB_exc, kInt_ok, kIsN_non, kNotN_non, ofO_some, ss_nil, ss_cons, s_expr, s_set, s_par, s_asg, s_putL, s_ownNew, s_ownApp, s_freeze, s_ret, s_retN, s_ite, s_whl, s_forN, s_forR, s_brk, s_cont, s_pass, s_raise, s_try, sq_nx, sq_rt, sq_bk, sq_ct, sq_exc, kExpr_ok, kExpr_exc, kSet_ok, kSet_exc, kPar_ok, kPar_exc, kPar1_ok, kPar1_exc, kAsg_ok, kAsg_exc, kPut_ok, kPut1_ok, kPut2_ok, kOwn_ok, kApp_ok, kRet_ok, kRet_exc, kSIf_ok, kSIf_exc, kFor_tup, kFor_lst, kRun_nx, kRun_rt, kRun_exc, kTry_ok, kTry_exc, nox_ok, eq_ii, eq_ss, si0, si1, si2, si3, si4, si5, si6, si7, si8, si9, si10, si11, si12, si13, si14, si15, b_add, b_sub, c_lt, c_le, c_gt, c_ge, eq_ii, eq_ss, c_eq, c_ne, k_abs, k_int, k_intB, k_lenT, k_lenL, k_lenS, x_tup, x_lst, gi0, si0, gi1, si1, gi2, si2, gi3, si3, gi4, si4, gi5, si5, gi6, si6, gi7, si7, gi8, si8, gi9, si9, gi10, si10, gi11, si11, gi12, si12, gi13, si13, gi14, si14, gi15, si15, ri0, ri1, ri2, ri3, ri4, ri5, ri6, ri7, ri8, ri9, ri10, ri11, ai0, ai1, ai2, ai3, ai4, ai5, ai6, ai7, ai8, ai9, List.map_cons, List.map_nil, List.cons_append, List.nil_append, List.append_nil, Option.map_some, R.bind_ok, Bool.not_true, Bool.not_false, if_true, if_false, Bool.false_eq_true, decide_true, decide_false, Nat.reduceSub, bindT, bindTs, List.length_cons, List.length_nil, sizeLine_eq, Nat.reduceAdd, Nat.reduceLeDiff, Nat.zero_add, decide_eq_true_eq, x_obj0, put0, put1, put2, ic0, ic1, ic2, ic3, ic4, ic5, ic6, ic7, ic8, ic9, ic10, ic11, ic12, ic13, ic14, ic15, ic16, ic17, ic18, ic19, ic20, ic21, ic22, ic23, Int.reduceEq, Int.reduceLT, Int.reduceLE, Int.reduceNeg, vB_var, vB_int, vB_str, vB_bl, vB_non, vB_glob, vB_tup, vB_lst, vB_dic0, vB_bin, vB_neg, vB_not, vB_and, vB_or, vB_cmp, vB_chain, vB_isN, vB_notN, vB_ifx, vB_sub, vB_slice, vB_call, vB_bi, vB_isi, vB_comp, vB_fmt, vB_fstr, vB_join, vB_own, rs_int, rs_str, rs_bl, rs_non, rs_tup, rs_lst, rs_dic, rs_scr, kFmt_ok, kJoin_ok, kJ_ok, kListM_ok, e_listM, e_fmt, e_fstr, e_join, j_nil, j_cons, kCmpC_ok, kCmpC_exc, s_ownAdd, s_appL, kOAdd_ok, kOAdd1_ok, addF_ok, sw_line_slide, sw_line_read, sw_line_try, sw_line_left, sw_line_right, sw_slide_line, sw_slide_read, sw_slide_try, sw_slide_left, sw_slide_right, sw_read_line, sw_read_slide, sw_read_try, sw_read_left, sw_read_right, sw_try_line, sw_try_slide, sw_try_read, sw_try_left, sw_try_right, sw_left_line, sw_left_slide, sw_left_read, sw_left_try, sw_left_right, sw_right_line, sw_right_slide, sw_right_read, sw_right_try, sw_right_left, it_lst, it_tup, kAppL_obj, kAppL1_ok, appF_ok, e_compI, cstep_ap, cst1_some, kCC_ok, kSome_ok, c_no, c_some, kCompI_ok, kCompE_ok, e_sset, e_lset, e_allL, i_seq, i_rng, i_rng2, i_enum, i_zip, kSeq_tup, kSeq_lst, kSeq_str, kSeq_exc, kRng2_ok, kEnum_lst, kZip_ok, kZip1_lst, vB_compI, vB_sset, vB_lset, vB_allL, rs_cdic, s_forI, s_ownExt, kForI_ok, kForI_exc, lstep_ap, lst1_some, kExt_lst, c_in, c_nin, s_aug, kAug_ok, au_add, au_sub, is_non_int, is_non_bool, is_non_str, is_non_tuple, is_non_list, is_non_dict, is_bl_int, is_bl_bool, is_bl_str, is_bl_tuple, is_bl_list, is_bl_dict, is_int_int, is_int_bool, is_int_str, is_int_tuple, is_int_list, is_int_dict, is_str_int, is_str_bool, is_str_str, is_str_tuple, is_str_list, is_str_dict, is_tup_int, is_tup_bool, is_tup_str, is_tup_tuple, is_tup_list, is_tup_dict, is_lst_int, is_lst_bool, is_lst_str, is_lst_tuple, is_lst_list, is_lst_dict, is_dic_int, is_dic_bool, is_dic_str, is_dic_tuple, is_dic_list, is_dic_dict, e_fld, e_prop, e_mcall, kFld_ok, kPrp_ok, kPrp1_some, kMth_ok, kMth1_some, kMth2_ok, rnox_ok, vB_fld, vB_prop, vB_mcall, s_setF, kSetF_ok, putD_nil, s_forT, setFF_0, setFF_1, setFF_2, setFF_3])
local macro_rules | `(tactic| walk_at "p") => `(tactic| try simp only [e_var, e_int, e_str, e_bl, e_non, e_glob, e_tup, e_lst, e_lstM, e_dic0, e_bin, e_neg, e_not, e_and, e_or, e_cmp, e_chain, e_isN, e_notN, e_ifx, e_sub, e_slice, e_call, e_bi, e_isi, e_comp, es_nil, es_cons, o_no, o_some, t_val, t_and, t_or, t_not, t_cmp, t_chain, t_isN, t_notN, kCons_ok, kCons_exc, kCons1_ok, kCons1_exc, kTup_ok, kTup_exc, kLst_ok, kLst_exc, kLstM_ok, kCall_ok, kCall_exc, kBin_ok, kBin_exc, kBin1_ok, kBin1_exc, kNeg_ok, kNot_ok, kNot_exc, kAnd_ok, kAnd_exc, kOr_ok, kOr_exc, kCmp_ok, kCmp_exc, kCmp1_ok, kCmp1_exc, kCh_ok, kCh1_ok, kCh2_some, kIf_ok, kIf_exc, kSub_ok, kSub_exc, kSub1_ok, kSub1_exc, kSl_ok, kSl1_ok, kSl2_ok, kBi_ok, kBi_exc, kIsi_ok, kTru_bl, kTru_exc, kTAnd_ok, kTAnd_exc, kTOr_ok, kTOr_exc, kTNot_ok, kTNot_exc, kTB_ok, kTB_exc, kInt_ok, kIsN_non, kNotN_non, ofO_some, ss_nil, ss_cons, s_expr, s_set, s_par, s_asg, s_putL, s_ownNew, s_ownApp, s_freeze, s_ret, s_retN, s_ite, s_whl, s_forN, s_forR, s_brk, s_cont, s_pass, s_raise, s_try, sq_nx, sq_rt, sq_bk, sq_ct, sq_exc, kExpr_ok, kExpr_exc, kSet_ok, kSet_exc, kPar_ok, kPar_exc, kPar1_ok, kPar1_exc, kAsg_ok, kAsg_exc, kPut_ok, kPut1_ok, kPut2_ok, kOwn_ok, kApp_ok, kRet_ok, kRet_exc, kSIf_ok, kSIf_exc, kFor_tup, kFor_lst, kRun_nx, kRun_rt, kRun_exc, kTry_ok, kTry_exc, nox_ok, eq_ii, eq_ss, si0, si1, si2, si3, si4, si5, si6, si7, si8, si9, si10, si11, si12, si13, si14, si15, b_add, b_sub, c_lt, c_le, c_gt, c_ge, eq_ii, eq_ss, c_eq, c_ne, k_abs, k_int, k_intB, k_lenT, k_lenL, k_lenS, x_tup, x_lst, gi0, si0, gi1, si1, gi2, si2, gi3, si3, gi4, si4, gi5, si5, gi6, si6, gi7, si7, gi8, si8, gi9, si9, gi10, si10, gi11, si11, gi12, si12, gi13, si13, gi14, si14, gi15, si15, ri0, ri1, ri2, ri3, ri4, ri5, ri6, ri7, ri8, ri9, ri10, ri11, ai0, ai1, ai2, ai3, ai4, ai5, ai6, ai7, ai8, ai9, List.map_cons, List.map_nil, List.cons_append, List.nil_append, List.append_nil, Option.map_some, R.bind_ok, Bool.not_true, Bool.not_false, if_true, if_false, Bool.false_eq_true, decide_true, decide_false, Nat.reduceSub, bindT, bindTs, List.length_cons, List.length_nil, sizeLine_eq, Nat.reduceAdd, Nat.reduceLeDiff, Nat.zero_add, decide_eq_true_eq, x_obj0, put0, put1, put2, ic0, ic1, ic2, ic3, ic4, ic5, ic6, ic7, ic8, ic9, ic10, ic11, ic12, ic13, ic14, ic15, ic16, ic17, ic18, ic19, ic20, ic21, ic22, ic23, Int.reduceEq, Int.reduceLT, Int.reduceLE, Int.reduceNeg, vB_var, vB_int, vB_str, vB_bl, vB_non, vB_glob, vB_tup, vB_lst, vB_dic0, vB_bin, vB_neg, vB_not, vB_and, vB_or, vB_cmp, vB_chain, vB_isN, vB_notN, vB_ifx, vB_sub, vB_slice, vB_call, vB_bi, vB_isi, vB_comp, vB_fmt, vB_fstr, vB_join, vB_own, rs_int, rs_str, rs_bl, rs_non, rs_tup, rs_lst, rs_dic, rs_scr, kFmt_ok, kJoin_ok, kJ_ok, kListM_ok, e_listM, e_fmt, e_fstr, e_join, j_nil, j_cons, kCmpC_ok, kCmpC_exc, s_ownAdd, s_appL, kOAdd_ok, kOAdd1_ok, addF_ok, sw_line_slide, sw_line_read, sw_line_try, sw_line_left, sw_line_right, sw_slide_line, sw_slide_read, sw_slide_try, sw_slide_left, sw_slide_right, sw_read_line, sw_read_slide, sw_read_try, sw_read_left, sw_read_right, sw_try_line, sw_try_slide, sw_try_read, sw_try_left, sw_try_right, sw_left_line, sw_left_slide, sw_left_read, sw_left_try, sw_left_right, sw_right_line, sw_right_slide, sw_right_read, sw_right_try, sw_right_left, it_lst, it_tup, kAppL_obj, kAppL1_ok, appF_ok, e_compI, cstep_ap, cst1_some, kCC_ok, kSome_ok, c_no, c_some, kCompI_ok, kCompE_ok, e_sset, e_lset, e_allL, i_seq, i_rng, i_rng2, i_enum, i_zip, kSeq_tup, kSeq_lst, kSeq_str, kSeq_exc, kRng2_ok, kEnum_lst, kZip_ok, kZip1_lst, vB_compI, vB_sset, vB_lset, vB_allL, rs_cdic, s_forI, s_ownExt, kForI_ok, kForI_exc, lstep_ap, lst1_some, kExt_lst, c_in, c_nin, s_aug, kAug_ok, au_add, au_sub, is_non_int, is_non_bool, is_non_str, is_non_tuple, is_non_list, is_non_dict, is_bl_int, is_bl_bool, is_bl_str, is_bl_tuple, is_bl_list, is_bl_dict, is_int_int, is_int_bool, is_int_str, is_int_tuple, is_int_list, is_int_dict, is_str_int, is_str_bool, is_str_str, is_str_tuple, is_str_list, is_str_dict, is_tup_int, is_tup_bool, is_tup_str, is_tup_tuple, is_tup_list, is_tup_dict, is_lst_int, is_lst_bool, is_lst_str, is_lst_tuple, is_lst_list, is_lst_dict, is_dic_int, is_dic_bool, is_dic_str, is_dic_tuple, is_dic_list, is_dic_dict, e_fld, e_prop, e_mcall, kFld_ok, kPrp_ok, kPrp1_some, kMth_ok, kMth1_some, kMth2_ok, rnox_ok, vB_fld, vB_prop, vB_mcall, s_setF, kSetF_ok, putD_nil, s_forT, setFF_0, setFF_1, setFF_2, setFF_3])
local macro_rules | `(tactic| walk_at "pvh") => `(tactic| simp only [e_var, e_int, e_str, e_bl, e_non, e_glob, e_tup, e_lst, e_lstM, e_dic0, e_bin, e_neg, e_not, e_and, e_or, e_cmp, e_chain, e_isN, e_notN, e_ifx, e_sub, e_slice, e_call, e_bi, e_isi, e_comp, es_nil, es_cons, o_no, o_some, t_val, t_and, t_or, t_not, t_cmp, t_chain, t_isN, t_notN, kCons_ok, kCons_exc, kCons1_ok, kCons1_exc, kTup_ok, kTup_exc, kLst_ok, kLst_exc, kLstM_ok, kCall_ok, kCall_exc, kBin_ok, kBin_exc, kBin1_ok, kBin1_exc, kNeg_ok, kNot_ok, kNot_exc, kAnd_ok, kAnd_exc, kOr_ok, kOr_exc, kCmp_ok, kCmp_exc, kCmp1_ok, kCmp1_exc, kCh_ok, kCh1_ok, kCh2_some, kIf_ok, kIf_exc, kSub_ok, kSub_exc, kSub1_ok, kSub1_exc, kSl_ok, kSl1_ok, kSl2_ok, kBi_ok, kBi_exc, kIsi_ok, kTru_bl, kTru_exc, kTAnd_ok, kTAnd_exc, kTOr_ok, kTOr_exc, kTNot_ok, kTNot_exc, kTB_ok, kTB_exc, kInt_ok, kIsN_non, kNotN_non, ofO_some, ss_nil, ss_cons, s_expr, s_set, s_par, s_asg, s_putL, s_ownNew, s_ownApp, s_freeze, s_ret, s_retN, s_ite, s_whl, s_forN, s_forR, s_brk, s_cont, s_pass, s_raise, s_try, sq_nx, sq_rt, sq_bk, sq_ct, sq_exc, kExpr_ok, kExpr_exc, kSet_ok, kSet_exc, kPar_ok, kPar_exc, kPar1_ok, kPar1_exc, kAsg_ok, kAsg_exc, kPut_ok, kPut1_ok, kPut2_ok, kOwn_ok, kApp_ok, kRet_ok, kRet_exc, kSIf_ok, kSIf_exc, kFor_tup, kFor_lst, kRun_nx, kRun_rt, kRun_exc, kTry_ok, kTry_exc, nox_ok, eq_ii, eq_ss, si0, si1, si2, si3, si4, si5, si6, si7, si8, si9, si10, si11, si12, si13, si14, si15, b_add, b_sub, c_lt, c_le, c_gt, c_ge, eq_ii, eq_ss, c_eq, c_ne, k_abs, k_int, k_intB, k_lenT, k_lenL, k_lenS, x_tup, x_lst, gi0, si0, gi1, si1, gi2, si2, gi3, si3, gi4, si4, gi5, si5, gi6, si6, gi7, si7, gi8, si8, gi9, si9, gi10, si10, gi11, si11, gi12, si12, gi13, si13, gi14, si14, gi15, si15, ri0, ri1, ri2, ri3, ri4, ri5, ri6, ri7, ri8, ri9, ri10, ri11, ai0, ai1, ai2, ai3, ai4, ai5, ai6, ai7, ai8, ai9, List.map_cons, List.map_nil, List.cons_append, List.nil_append, List.append_nil, Option.map_some, R.bind_ok, Bool.not_true, Bool.not_false, if_true, if_false, Bool.false_eq_true, decide_true, decide_false, Nat.reduceSub, bindT, bindTs, List.length_cons, List.length_nil, sizeLine_eq, Nat.reduceAdd, Nat.reduceLeDiff, Nat.zero_add, decide_eq_true_eq, x_obj0, put0, put1, put2, ic0, ic1, ic2, ic3, ic4, ic5, ic6, ic7, ic8, ic9, ic10, ic11, ic12, ic13, ic14, ic15, ic16, ic17, ic18, ic19, ic20, ic21, ic22, ic23, Int.reduceEq, Int.reduceLT, Int.reduceLE, Int.reduceNeg, vB_var, vB_int, vB_str, vB_bl, vB_non, vB_glob, vB_tup, vB_lst, vB_dic0, vB_bin, vB_neg, vB_not, vB_and, vB_or, vB_cmp, vB_chain, vB_isN, vB_notN, vB_ifx, vB_sub, vB_slice, vB_call, vB_bi, vB_isi, vB_comp, vB_fmt, vB_fstr, vB_join, vB_own, rs_int, rs_str, rs_bl, rs_non, rs_tup, rs_lst, rs_dic, rs_scr, kFmt_ok, kJoin_ok, kJ_ok, kListM_ok, e_listM, e_fmt, e_fstr, e_join, j_nil, j_cons, kCmpC_ok, kCmpC_exc, s_ownAdd, s_appL, kOAdd_ok, kOAdd1_ok, addF_ok, sw_line_slide, sw_line_read, sw_line_try, sw_line_left, sw_line_right, sw_slide_line, sw_slide_read, sw_slide_try, sw_slide_left, sw_slide_right, sw_read_line, sw_read_slide, sw_read_try, sw_read_left, sw_read_right, sw_try_line, sw_try_slide, sw_try_read, sw_try_left, sw_try_right, sw_left_line, sw_left_slide, sw_left_read, sw_left_try, sw_left_right, sw_right_line, sw_right_slide, sw_right_read, sw_right_try, sw_right_left, it_lst, it_tup, kAppL_obj, kAppL1_ok, appF_ok, e_compI, cstep_ap, cst1_some, kCC_ok, kSome_ok, c_no, c_some, kCompI_ok, kCompE_ok, e_sset, e_lset, e_allL, i_seq, i_rng, i_rng2, i_enum, i_zip, kSeq_tup, kSeq_lst, kSeq_str, kSeq_exc, kRng2_ok, kEnum_lst, kZip_ok, kZip1_lst, vB_compI, vB_sset, vB_lset, vB_allL, rs_cdic, s_forI, s_ownExt, kForI_ok, kForI_exc, lstep_ap, lst1_some, kExt_lst, c_in, c_nin, s_aug, kAug_ok, au_add, au_sub, is_non_int, is_non_bool, is_non_str, is_non_tuple, is_non_list, is_non_dict, is_bl_int, is_bl_bool, is_bl_str, is_bl_tuple, is_bl_list, is_bl_dict, is_int_int, is_int_bool, is_int_str, is_int_tuple, is_int_list, is_int_dict, is_str_int, is_str_bool, is_str_str, is_str_tuple, is_str_list, is_str_dict, is_tup_int, is_tup_bool, is_tup_str, is_tup_tuple, is_tup_list, is_tup_dict, is_lst_int, is_lst_bool, is_lst_str, is_lst_tuple, is_lst_list, is_lst_dict, is_dic_int, is_dic_bool, is_dic_str, is_dic_tuple, is_dic_list, is_dic_dict, e_fld, e_prop, e_mcall, kFld_ok, kPrp_ok, kPrp1_some, kMth_ok, kMth1_some, kMth2_ok, rnox_ok, vB_fld, vB_prop, vB_mcall, s_setF, kSetF_ok, putD_nil, s_forT, setFF_0, setFF_1, setFF_2, setFF_3, *])
def d_is_scale : Df := ⟨1, 1, [],
    (.cons (.ite (.or (.not (.val (.isi (.var 0) .tuple))) (.or (.cmp .ne (.bi .len (.var 0)) (.int 3)) (.not (.val (.call "is_scale_name" (.cons (.sub (.var 0) (.int 0)) .nil))))))
    (.cons (.ret (.bl false))
    .nil)
    .nil)
    (.cons (.ite (.or (.not (.val (.call "is_integer" (.cons (.sub (.var 0) (.int 1)) .nil)))) (.or (.cmp .eq (.sub (.var 0) (.int 1)) (.int 0)) (.cmp .gt (.bi .abs (.sub (.var 0) (.int 1))) (.glob "MAX_TURNS"))))
    (.cons (.ret (.bl false))
    .nil)
    .nil)
    (.cons (.ret (.call "is_mantissa" (.cons (.sub (.var 0) (.int 2)) .nil)))
    .nil))), false⟩
def d_rule_word_b1 : Ss := (.cons (.ite (.or (.not (.val (.isi (.var 2) .tuple))) (.cmp .gt (.bi .len (.var 2)) (.glob "MAX_SCALES")))
    (.cons (.ret (.str "scales"))
    .nil)
    .nil)
    .nil)
def d_rule_word_b2 : Ss := (.cons (.ite (.not (.val (.call "is_scale" (.cons (.var 3) .nil))))
    (.cons (.ret (.str "scale"))
    .nil)
    .nil)
    .nil)
def d_rule_word : Df := ⟨5, 2, [],
    (.cons (.for_ (.nm 2) (.tup (.cons (.var 0) (.cons (.var 1) .nil))) d_rule_word_b1)
    (.cons (.for_ (.nm 3) (.bin .add (.var 0) (.var 1)) d_rule_word_b2)
    (.cons (.set 4 (.compI (.sub (.var 3) (.int 0)) (.nm 3) (.seq (.bin .add (.var 0) (.var 1))) .no))
    (.cons (.ret (.ifx (.cmp .lt (.lset (.var 4)) (.bi .len (.var 4))) (.str "name") .non))
    .nil)))), false⟩
def d_Rule : Df := ⟨4, 3, [],
    (.cons (.set 3 (.call "rule_word" (.cons (.var 1) (.cons (.var 2) .nil))))
    (.cons (.ite (.notN (.var 3))
    (.cons (.raise "BadRule" (.cons (.var 3) .nil))
    .nil)
    .nil)
    (.cons (.setF 0 "fixed" (.var 1))
    (.cons (.setF 0 "moving" (.var 2))
    .nil)))), false⟩
def d_Rule_scale_b1 : Ss := (.cons (.ite (.cmp .eq (.var 2) (.var 1))
    (.cons (.ret (.tup (.cons (.var 3) (.cons (.var 4) .nil))))
    .nil)
    .nil)
    .nil)
def d_Rule_scale : Df := ⟨5, 2, [],
    (.cons (.for_ (.tup (.cons (.nm 2) (.cons (.nm 3) (.cons (.nm 4) .nil)))) (.bin .add (.fld (.var 0) "fixed") (.fld (.var 0) "moving")) d_Rule_scale_b1)
    (.cons (.raise "NoScale" (.cons (.var 1) .nil))
    .nil)), false⟩
def d_place : Df := ⟨7, 4, [],
    (.cons (.asg (.tup (.cons (.nm 5) (.cons (.nm 6) .nil))) (.mcall (.var 0) "scale" (.cons (.var 1) .nil)))
    (.cons (.ite (.or (.not (.val (.call "is_integer" (.cons (.var 2) .nil)))) (.not (.chain .le .lt (.int 0) (.var 2) (.bi .abs (.var 5)))))
    (.cons (.raise "NoStretch" (.cons (.var 2) .nil))
    .nil)
    .nil)
    (.cons (.ite (.not (.val (.call "is_mantissa" (.cons (.var 3) .nil))))
    (.cons (.raise "NoMantissa" (.cons (.var 3) .nil))
    .nil)
    .nil)
    (.cons (.set 4 (.ifx (.cmp .gt (.var 5) (.int 0)) (.call "minus" (.cons (.var 3) (.cons (.var 6) .nil))) (.call "minus" (.cons (.var 6) (.cons (.var 3) .nil)))))
    (.cons (.ret (.call "times" (.cons (.call "plus" (.cons (.call "part_of" (.cons (.var 4) .nil)) (.cons (.tup (.cons (.var 2) (.cons (.int 1) .nil))) .nil))) (.cons (.tup (.cons (.int 1) (.cons (.bi .abs (.var 5)) .nil))) .nil))))
    .nil))))), false⟩
def d_figure : Df := ⟨6, 3, [],
    (.cons (.asg (.tup (.cons (.nm 4) (.cons (.nm 5) .nil))) (.mcall (.var 0) "scale" (.cons (.var 1) .nil)))
    (.cons (.ite (.or (.not (.val (.call "is_fraction" (.cons (.var 2) .nil)))) (.or (.cmp .lt (.call "compare" (.cons (.var 2) (.cons (.glob "ZERO") .nil))) (.int 0)) (.cmp .gt (.call "compare" (.cons (.var 2) (.cons (.glob "ONE") .nil))) (.int 0))))
    (.cons (.raise "NoPosition" (.cons (.var 2) .nil))
    .nil)
    .nil)
    (.cons (.set 3 (.call "plus" (.cons (.call "times" (.cons (.var 2) (.cons (.call "fraction" (.cons (.var 4) .nil)) .nil))) (.cons (.var 5) .nil))))
    (.cons (.ret (.tup (.cons (.call "floor_of" (.cons (.var 3) .nil)) (.cons (.call "part_of" (.cons (.var 3) .nil)) .nil))))
    .nil)))), false⟩
section
open TL
variable {C : Cn} {t : Tbl}
/-! ### rules -/
/-- what rules need -/
structure RuT (C : Cn) (t : Tbl) : Prop where
  ft : FrT t
  fra : t "fraction" = some d_fraction
  pl : t "plus" = some d_plus
  mi : t "minus" = some d_minus
  ti : t "times" = some d_times
  mant : t "is_mantissa" = some d_is_mantissa
  sn : ∃ mx ls, C.con mx = some (.int 3) ∧ C.con ls = some (.str ABC) ∧ t "is_scale_name" = some (d_isNm mx ls)
  turns : C.con "MAX_TURNS" = some (.int 3)
  scs : C.con "MAX_SCALES" = some (.int 6)
  isc : t "is_scale" = some d_is_scale
  rwo : t "rule_word" = some d_rule_word
  tR : t "Rule" = none
  cR : C.ctor "Rule" = some d_Rule
  mS : C.mky "Rule" "scale" = some "Rule.scale"
  tS : t "Rule.scale" = some d_Rule_scale
def ruD (r : Rl) : D := .ins "Rule" [("fixed", .tup (r.b.map scD)), ("moving", .tup (r.s.map scD))]
theorem ABC_mem {c : Nat} (h0 : 65 ≤ c) (h1 : c ≤ 90) : c ∈ ABC.cps.toList := by
  have e : ABC.cps.toList = (List.range 26).map (65 + ·) := by decide +kernel
  rw [e]
  exact List.mem_map.mpr ⟨c - 65, List.mem_range.mpr (by omega), by omega⟩
theorem ScOk.nmB {c : Nat} {s : Sca} (h : ScOk c s) (hc : c < 26) : nmB ABC s.n = true := by
  have hl := h.len
  obtain ⟨l, e, h1⟩ := h.n
  rw [e] at hl ⊢
  unfold PV.nmB
  rw [Bool.and_eq_true]
  refine ⟨decide_eq_true ⟨?_, hl⟩, ?_⟩
  · show 1 ≤ (((65 + c) :: l).toArray).size
    simp
  · rw [List.all_eq_true]
    intro a ha
    have ha' : a ∈ (65 + c) :: l := by simpa using ha
    refine decide_eq_true ?_
    rcases List.mem_cons.mp ha' with e | e
    · exact ABC_mem (by omega) (by omega)
    · rcases h1 with rfl | rfl | rfl
      · cases e
      · simp at e
        exact ABC_mem (by omega) (by omega)
      · simp at e
        exact ABC_mem (by omega) (by omega)
theorem ScAll.okc {first : Int} : ∀ {ks : List Int} {ss : List Sca}, ScAll first ks ss → ∀ s ∈ ss, ∃ c, c < 26 ∧ ScOk c s
  | [], [], _, s, hs => nomatch hs
  | k :: ks, s :: ss, h, r, hr => by
    rcases List.mem_cons.mp hr with e | e
    · rw [e]
      refine ⟨_, ?_, h.1⟩
      have c0 : 0 ≤ (first + 5 * k) % 26 := Int.emod_nonneg _ (by decide)
      have c1 : (first + 5 * k) % 26 < 26 := Int.emod_lt_of_pos _ (by decide)
      omega
    · exact ScAll.okc h.2 r e
  | [], _ :: _, h, _, _ => h.elim
  | _ :: _, [], h, _, _ => h.elim
theorem RlOk.okc {r : Rl} (h : RlOk r) : ∀ s ∈ r.b ++ r.s, ∃ c, c < 26 ∧ ScOk c s := by
  obtain ⟨f, m, _, _, _, _, q⟩ := h.ex
  exact q.okc
theorem ScOk.ne {c c' : Nat} {s s' : Sca} (h : ScOk c s) (h' : ScOk c' s') (hc : c ≠ c') : s.n ≠ s'.n := by
  obtain ⟨l, e, _⟩ := h.n
  obtain ⟨l', e', _⟩ := h'.n
  rw [e, e']
  intro z
  have z1 : (65 + c) :: l = (65 + c') :: l' := by
    have := congrArg (fun x : Str => x.cps.toList) z
    simpa using this
  injection z1 with z2 _
  omega
theorem ScAll.nodup {first : Int} : ∀ {ks : List Int} {ss : List Sca}, ScAll first ks ss → ks.Nodup → (∀ k ∈ ks, 0 ≤ k ∧ k < 5) → (ss.map (·.n)).Nodup
  | [], [], _, _, _ => List.nodup_nil
  | k :: ks, s :: ss, h, nd, hk => by
    rw [List.map_cons, List.nodup_cons]
    rw [List.nodup_cons] at nd
    refine ⟨fun hm => ?_, ScAll.nodup h.2 nd.2 fun j hj => hk j (List.mem_cons_of_mem _ hj)⟩
    obtain ⟨s', hs', e⟩ := List.mem_map.mp hm
    have key : ∀ {js : List Int} {rs : List Sca}, ScAll first js rs → (∀ j ∈ js, j ∈ ks) → s' ∈ rs → ∃ j ∈ ks, ScOk ((first + 5 * j) % 26).toNat s' := by
      intro js
      induction js with
      | nil => intro rs h hj hs; cases rs with
        | nil => cases hs
        | cons => exact h.elim
      | cons j js ih => intro rs h hj hs; cases rs with
        | nil => exact h.elim
        | cons r rs =>
          rcases List.mem_cons.mp hs with e | e
          · exact ⟨j, hj j List.mem_cons_self, e ▸ h.1⟩
          · exact ih h.2 (fun i hi => hj i (List.mem_cons_of_mem _ hi)) e
    obtain ⟨j, hj, hs2⟩ := key h.2 (fun _ h => h) hs'
    have hkj : k ≠ j := fun z => nd.1 (z ▸ hj)
    obtain ⟨a1, a2⟩ := hk k List.mem_cons_self
    obtain ⟨b1, b2⟩ := hk j (List.mem_cons_of_mem _ hj)
    refine ScOk.ne h.1 hs2 ?_ e.symm
    have : (first + 5 * k) % 26 ≠ (first + 5 * j) % 26 := by omega
    omega
  | [], _ :: _, h, _, _ => h.elim
  | _ :: _, [], h, _, _ => h.elim
theorem RlOk.nodup {r : Rl} (h : RlOk r) : ((r.b ++ r.s).map (·.n)).Nodup := by
  obtain ⟨f, m, _, _, _, h4, q⟩ := h.ex
  refine q.nodup ?_ fun k hk => ?_
  · rw [List.nodup_iff_pairwise_ne, List.pairwise_map]
    exact List.nodup_range.imp fun {a b} hab z => hab (by omega)
  · obtain ⟨j, hj, rfl⟩ := List.mem_map.mp hk
    have := List.mem_range.mp hj
    omega
theorem dd_self : ∀ {l : List Str}, l.Nodup → ddS l = l
  | [], _ => rfl
  | x :: r, h => by
    rw [List.nodup_cons] at h
    unfold ddS
    rw [dd_self h.2, if_neg h.1]
theorem kLset_str {zs : List Str} {s : S} (h : zs.length < 4000) : kLset (.ok (.lst (zs.map .str)) s) = .ok (.int (ddS zs).length) s := by
  have e : kLset (.ok (.lst (zs.map .str)) s) = (match strsD (zs.map .str) with | some zs => if zs.length < 4000 then .ok (.int (ddS zs).length) s else .bad | none => .bad) := rfl
  rw [e, strs_map]
  exact if_pos h
theorem is_scale_ok (w : RuT C t) (n : Nat) (st : S) {c : Nat} {s : Sca} (h : ScOk c s) (hc : c < 26) : callN C t (n + 4) "is_scale" [scD s] st = .ok (.bl true) st := by
  obtain ⟨mx, ls, s1, s2, s3⟩ := w.sn
  have hl := h.len
  have h1 := isNm_str (C := C) (t := t) s1 s2 s3 (n + 2) st (z := s.n) (by omega)
  rw [h.nmB hc] at h1
  have h2 := is_integer_int (C := C) w.ft.ii (n + 2) s.t st
  have h3 := is_mant_ok (C := C) w.ft w.mant n h.f st
  have t0 := h.t0
  have t1 : ¬ (3 : Int) < (s.t.natAbs : Int) := by have := h.t1; have := h.t2; omega
  rw [call_run w.isc rfl]
  simp only [d_is_scale, scD]
  walk_at "p"
  rw [h1]
  walk_at "p"
  rw [h2]
  walk_at "p"
  simp only [t0]
  walk_at "p"
  rw [w.turns]
  walk_at "p"
  simp only [t1]
  walk_at "p"
  rw [h3]
  walk_at "p"
theorem rule_word_ok (w : RuT C t) (n : Nat) (st : S) {r : Rl} (h : RlOk r) : callN C t (n + 5) "rule_word" [.tup (r.b.map scD), .tup (r.s.map scD)] st = .ok .non st := by
  have hl := h.len
  have e2 : binD .add (.tup (r.b.map scD)) (.tup (r.s.map scD)) = some (.tup ((r.b ++ r.s).map scD)) := by
    rw [List.map_append]
    exact b_addT (by rw [List.length_map, List.length_map, sizeLine_eq]; omega)
  suffices q : W (callN C t (n + 5) "rule_word" [.tup (r.b.map scD), .tup (r.s.map scD)] st) fun d s => d = .non ∧ s = st by
    obtain ⟨d, s, e, rfl, rfl⟩ := q
    exact e
  refine W_run w.rwo rfl ?_
  simp only [d_rule_word]
  walk_at "p"
  refine B_for (fun xs env s' => s' = st ∧ (∀ x ∈ xs, ∃ ys, x = D.tup ys ∧ ys.length ≤ 6) ∧ ∃ s2, env = [.val (.tup (r.b.map scD)), .val (.tup (r.s.map scD)), s2, .no, .no]) ⟨rfl, ?_, _, rfl⟩ ?_ ?_
  · intro x hx
    simp only [List.mem_cons, List.not_mem_nil, or_false] at hx
    rcases hx with e | e <;> subst e <;> exact ⟨_, rfl, by rw [List.length_map]; omega⟩
  · rintro x xs env s' ⟨rfl, hx, s2, rfl⟩
    obtain ⟨ys, rfl, hy⟩ := hx x List.mem_cons_self
    have b1 : ¬ (6 : Int) < (ys.length : Int) := by omega
    simp only [d_rule_word_b1]
    walk_at "p"
    rw [w.scs]
    walk_at "p"
    simp only [b1]
    walk_at "p"
    exact B.nx ⟨rfl, fun z hz => hx z (List.mem_cons_of_mem _ hz), _, rfl⟩
  · rintro env s' ⟨rfl, _, s2, rfl⟩
    walk_at "p"
    rw [e2]
    walk_at "p"
    refine B_for (fun xs env s2' => s2' = s' ∧ (∀ x ∈ xs, ∃ q ∈ r.b ++ r.s, x = scD q) ∧ ∃ s3, env = [.val (.tup (r.b.map scD)), .val (.tup (r.s.map scD)), s2, s3, .no]) ⟨rfl, ?_, _, rfl⟩ ?_ ?_
    · intro x hx
      obtain ⟨q, hq, e⟩ := List.mem_map.mp hx
      exact ⟨q, hq, e.symm⟩
    · rintro x xs env s2' ⟨rfl, hx, s3, rfl⟩
      obtain ⟨q, hq, rfl⟩ := hx x List.mem_cons_self
      obtain ⟨c, hc, oc⟩ := h.okc q hq
      simp only [d_rule_word_b2]
      walk_at "p"
      rw [is_scale_ok w n s2' oc hc]
      walk_at "p"
      exact B.nx ⟨rfl, fun z hz => hx z (List.mem_cons_of_mem _ hz), _, rfl⟩
    · rintro env s2' ⟨rfl, _, s3, rfl⟩
      walk_at "p"
      rw [e2]
      walk_at "p"
      rw [kCompE_map (h := scD) (g := fun s => some (.str s.n)) (by rw [List.length_append]; omega) (fun s _ => ?_), fmap_some]
      · have e3 : (r.b ++ r.s).map (fun s => D.str s.n) = ((r.b ++ r.s).map (·.n)).map D.str := by rw [List.map_map]; rfl
        rw [e3]
        walk_at "p"
        rw [kLset_str (by rw [List.length_map, List.length_append]; omega), dd_self h.nodup]
        walk_at "p"
        have b3 : ¬ (((r.b ++ r.s).map (·.n)).length : Int) < ((((r.b ++ r.s).map (·.n)).map D.str).length : Int) := by simp only [List.length_map]; omega
        simp only [b3]
        walk_at "p"
        exact B.rt ⟨rfl, rfl⟩
      · simp only [scD]
        walk_at "p"
theorem rl_fixed {b m : D} : [("fixed", b), ("moving", m)].lookup "fixed" = some b := rfl
theorem rl_moving {b m : D} : [("fixed", b), ("moving", m)].lookup "moving" = some m := rfl
theorem rl_put {b m : D} : putD "moving" m [("fixed", b)] = [("fixed", b), ("moving", m)] := rfl
theorem rule_ok (w : RuT C t) (n : Nat) (st : S) {r : Rl} (h : RlOk r) : callN C t (n + 6) "Rule" [.tup (r.b.map scD), .tup (r.s.map scD)] st = .ok (ruD r) st := by
  suffices q : W (callN C t (n + 6) "Rule" [.tup (r.b.map scD), .tup (r.s.map scD)] st) fun d s => d = ruD r ∧ s = st by
    obtain ⟨d, s, e, rfl, rfl⟩ := q
    exact e
  refine W_ctor w.tR w.cR rfl ?_
  simp only [d_Rule]
  walk_at "p"
  rw [rule_word_ok w n st h]
  walk_at "p"
  simp only [rl_put]
  exact B.nx ⟨_, _, rfl, rfl, rfl⟩
theorem rscale_ok (w : RuT C t) (n : Nat) (st : S) {r : Rl} (h : RlOk r) {s : Sca} (hs : s ∈ r.b ++ r.s) : callN C t (n + 1) "Rule.scale" [ruD r, .str s.n] st = .ok (.tup [.int s.t, pP s.f]) st := by
  have hl := h.len
  have e2 : binD .add (.tup (r.b.map scD)) (.tup (r.s.map scD)) = some (.tup ((r.b ++ r.s).map scD)) := by
    rw [List.map_append]
    exact b_addT (by rw [List.length_map, List.length_map, sizeLine_eq]; omega)
  suffices q : W (callN C t (n + 1) "Rule.scale" [ruD r, .str s.n] st) fun d s' => d = .tup [.int s.t, pP s.f] ∧ s' = st by
    obtain ⟨d, s', e, rfl, rfl⟩ := q
    exact e
  refine W_run w.tS rfl ?_
  simp only [d_Rule_scale, ruD]
  walk_at "p"
  rw [rl_fixed]
  walk_at "p"
  rw [rl_moving]
  walk_at "p"
  rw [e2]
  walk_at "p"
  have nd := h.nodup
  generalize r.b ++ r.s = L at hs nd ⊢
  refine B_for (fun xs env s' => s' = st ∧ (∃ M : List Sca, xs = M.map scD ∧ s ∈ M ∧ (M.map (·.n)).Nodup) ∧ ∃ s2 s3 s4, env = [.val (ruD r), .val (.str s.n), s2, s3, s4]) ⟨rfl, ⟨L, rfl, hs, nd⟩, _, _, _, rfl⟩ ?_ ?_
  · rintro x xs env s' ⟨rfl, ⟨M, e, hm, nd⟩, s2, s3, s4, rfl⟩
    cases M with
    | nil => cases e
    | cons q M =>
      injection e with e1 e2
      subst e1 e2
      simp only [d_Rule_scale_b1, scD]
      walk_at "p"
      by_cases hq : q.n = s.n
      · have hqs : s = q := by
          rcases List.mem_cons.mp hm with z | z
          · exact z
          · rw [List.map_cons, List.nodup_cons] at nd
            exact absurd (hq ▸ List.mem_map_of_mem z) nd.1
        subst hqs
        walk_at "p"
        exact B.rt ⟨rfl, rfl⟩
      · simp only [hq]
        walk_at "p"
        rw [List.map_cons, List.nodup_cons] at nd
        refine B.nx ⟨rfl, ⟨M, rfl, ?_, nd.2⟩, _, _, _, rfl⟩
        rcases List.mem_cons.mp hm with z | z
        · exact absurd (z ▸ rfl) hq
        · exact z
  · rintro env s' ⟨rfl, ⟨M, e, hm, nd⟩, s2, s3, s4, rfl⟩
    cases M with
    | nil => cases hm
    | cons q M => cases e
end
end PV

set_option Elab.async false
set_option linter.all false
set_option maxRecDepth 100000
set_option maxHeartbeats 1000000
set_option exponentiation.threshold 30000
set_option pp.maxSteps 600
set_option pp.deepTerms false
set_option pp.deepTerms.threshold 6
namespace PV
open PySem PySem.Spec PyProof.Rows L2
local macro_rules | `(tactic| walk_at "pv") => `(tactic| simp only [e_var, e_int, e_str, e_bl, e_non, e_glob, e_tup, e_lst, e_lstM, e_dic0, e_bin, e_neg, e_not, e_and, e_or, e_cmp, e_chain, e_isN, e_notN, e_ifx, e_sub, e_slice, e_call, e_bi, e_isi, e_comp, es_nil, es_cons, o_no, o_some, t_val, t_and, t_or, t_not, t_cmp, t_chain, t_isN, t_notN, kCons_ok, kCons_exc, kCons1_ok, kCons1_exc, kTup_ok, kTup_exc, kLst_ok, kLst_exc, kLstM_ok, kCall_ok, kCall_exc, kBin_ok, kBin_exc, kBin1_ok, kBin1_exc, kNeg_ok, kNot_ok, kNot_exc, kAnd_ok, kAnd_exc, kOr_ok, kOr_exc, kCmp_ok, kCmp_exc, kCmp1_ok, kCmp1_exc, kCh_ok, kCh1_ok, kCh2_some, kIf_ok, kIf_exc, kSub_ok, kSub_exc, kSub1_ok, kSub1_exc, kSl_ok, kSl1_ok, kSl2_ok, kBi_ok, kBi_exc, kIsi_ok, kTru_bl, kTru_exc, kTAnd_ok, kTAnd_exc, kTOr_ok, kTOr_exc, kTNot_ok, kTNot_exc, kTB_ok, kTB_exc, kInt_ok, kIsN_non, kNotN_non, ofO_some, ss_nil, ss_cons, s_expr, s_set, s_par, s_asg, s_putL, s_ownNew, s_ownApp, s_freeze, s_ret, s_retN, s_ite, s_whl, s_forN, s_forR, s_brk, s_cont, s_pass, s_raise, s_try, sq_nx, sq_rt, sq_bk, sq_ct, sq_exc, kExpr_ok, kExpr_exc, kSet_ok, kSet_exc, kPar_ok, kPar_exc, kPar1_ok, kPar1_exc, kAsg_ok, kAsg_exc, kPut_ok, kPut1_ok, kPut2_ok, kOwn_ok, kApp_ok, kRet_ok, kRet_exc, kSIf_ok, kSIf_exc, kFor_tup, kFor_lst, kRun_nx, kRun_rt, kRun_exc, kTry_ok, kTry_exc, nox_ok, eq_ii, eq_ss, si0, si1, si2, si3, si4, si5, si6, si7, si8, si9, si10, si11, si12, si13, si14, si15, b_add, b_sub, c_lt, c_le, c_gt, c_ge, eq_ii, eq_ss, c_eq, c_ne, k_abs, k_int, k_intB, k_lenT, k_lenL, k_lenS, x_tup, x_lst, gi0, si0, gi1, si1, gi2, si2, gi3, si3, gi4, si4, gi5, si5, gi6, si6, gi7, si7, gi8, si8, gi9, si9, gi10, si10, gi11, si11, gi12, si12, gi13, si13, gi14, si14, gi15, si15, ri0, ri1, ri2, ri3, ri4, ri5, ri6, ri7, ri8, ri9, ri10, ri11, ai0, ai1, ai2, ai3, ai4, ai5, ai6, ai7, ai8, ai9, List.map_cons, List.map_nil, List.cons_append, List.nil_append, List.append_nil, Option.map_some, R.bind_ok, Bool.not_true, Bool.not_false, if_true, if_false, Bool.false_eq_true, decide_true, decide_false, Nat.reduceSub, bindT, bindTs, List.length_cons, List.length_nil, sizeLine_eq, Nat.reduceAdd, Nat.reduceLeDiff, Nat.zero_add, decide_eq_true_eq, x_obj0, put0, put1, put2, ic0, ic1, ic2, ic3, ic4, ic5, ic6, ic7, ic8, ic9, ic10, ic11, ic12, ic13, ic14, ic15, ic16, ic17, ic18, ic19, ic20, ic21, ic22, ic23, Int.reduceEq, Int.reduceLT, Int.reduceLE, Int.reduceNeg, vB_var, vB_int, vB_str, vB_bl, vB_non, vB_glob, vB_tup, vB_lst, vB_dic0, vB_bin, vB_neg, vB_not, vB_and, vB_or, vB_cmp, vB_chain, vB_isN, vB_notN, vB_ifx, vB_sub, vB_slice, vB_call, vB_bi, vB_isi, vB_comp, vB_fmt, vB_fstr, vB_join, vB_own, rs_int, rs_str, rs_bl, rs_non, rs_tup, rs_lst, rs_dic, rs_scr, kFmt_ok, kJoin_ok, kJ_ok, kListM_ok, e_listM, e_fmt, e_fstr, e_join, j_nil, j_cons, kCmpC_ok, kCmpC_exc, s_ownAdd, s_appL, kOAdd_ok, kOAdd1_ok, addF_ok, sw_line_slide, sw_line_read, sw_line_try, sw_line_left, sw_line_right, sw_slide_line, sw_slide_read, sw_slide_try, sw_slide_left, sw_slide_right, sw_read_line, sw_read_slide, sw_read_try, sw_read_left, sw_read_right, sw_try_line, sw_try_slide, sw_try_read, sw_try_left, sw_try_right, sw_left_line, sw_left_slide, sw_left_read, sw_left_try, sw_left_right, sw_right_line, sw_right_slide, sw_right_read, sw_right_try, sw_right_left, it_lst, it_tup, kAppL_obj, kAppL1_ok, appF_ok, e_compI, cstep_ap, cst1_some, kCC_ok, kSome_ok, c_no, c_some, kCompI_ok, kCompE_ok, e_sset, e_lset, e_allL, i_seq, i_rng, i_rng2, i_enum, i_zip, kSeq_tup, kSeq_lst, kSeq_str, kSeq_exc, kRng2_ok, kEnum_lst, kZip_ok, kZip1_lst, vB_compI, vB_sset, vB_lset, vB_allL, rs_cdic, s_forI, s_ownExt, kForI_ok, kForI_exc, lstep_ap, lst1_some, kExt_lst, c_in, c_nin, s_aug, kAug_ok, au_add, au_sub, is_non_int, is_non_bool, is_non_str, is_non_tuple, is_non_list, is_non_dict, is_bl_int, is_bl_bool, is_bl_str, is_bl_tuple, is_bl_list, is_bl_dict, is_int_int, is_int_bool, is_int_str, is_int_tuple, is_int_list, is_int_dict, is_str_int, is_str_bool, is_str_str, is_str_tuple, is_str_list, is_str_dict, is_tup_int, is_tup_bool, is_tup_str, is_tup_tuple, is_tup_list, is_tup_dict, is_lst_int, is_lst_bool, is_lst_str, is_lst_tuple, is_lst_list, is_lst_dict, is_dic_int, is_dic_bool, is_dic_str, is_dic_tuple, is_dic_list, is_dic_dict, e_fld, e_prop, e_mcall, kFld_ok, kPrp_ok, kPrp1_some, kMth_ok, kMth1_some, kMth2_ok, rnox_ok, vB_fld, vB_prop, vB_mcall, s_setF, kSetF_ok, putD_nil, s_forT, setFF_0, setFF_1, setFF_2, setFF_3])
local macro_rules | `(tactic| walk_at "p") => `(tactic| try simp only [e_var, e_int, e_str, e_bl, e_non, e_glob, e_tup, e_lst, e_lstM, e_dic0, e_bin, e_neg, e_not, e_and, e_or, e_cmp, e_chain, e_isN, e_notN, e_ifx, e_sub, e_slice, e_call, e_bi, e_isi, e_comp, es_nil, es_cons, o_no, o_some, t_val, t_and, t_or, t_not, t_cmp, t_chain, t_isN, t_notN, kCons_ok, kCons_exc, kCons1_ok, kCons1_exc, kTup_ok, kTup_exc, kLst_ok, kLst_exc, kLstM_ok, kCall_ok, kCall_exc, kBin_ok, kBin_exc, kBin1_ok, kBin1_exc, kNeg_ok, kNot_ok, kNot_exc, kAnd_ok, kAnd_exc, kOr_ok, kOr_exc, kCmp_ok, kCmp_exc, kCmp1_ok, kCmp1_exc, kCh_ok, kCh1_ok, kCh2_some, kIf_ok, kIf_exc, kSub_ok, kSub_exc, kSub1_ok, kSub1_exc, kSl_ok, kSl1_ok, kSl2_ok, kBi_ok, kBi_exc, kIsi_ok, kTru_bl, kTru_exc, kTAnd_ok, kTAnd_exc, kTOr_ok, kTOr_exc, kTNot_ok, kTNot_exc, kTB_ok, kTB_exc, kInt_ok, kIsN_non, kNotN_non, ofO_some, ss_nil, ss_cons, s_expr, s_set, s_par, s_asg, s_putL, s_ownNew, s_ownApp, s_freeze, s_ret, s_retN, s_ite, s_whl, s_forN, s_forR, s_brk, s_cont, s_pass, s_raise, s_try, sq_nx, sq_rt, sq_bk, sq_ct, sq_exc, kExpr_ok, kExpr_exc, kSet_ok, kSet_exc, kPar_ok, kPar_exc, kPar1_ok, kPar1_exc, kAsg_ok, kAsg_exc, kPut_ok, kPut1_ok, kPut2_ok, kOwn_ok, kApp_ok, kRet_ok, kRet_exc, kSIf_ok, kSIf_exc, kFor_tup, kFor_lst, kRun_nx, kRun_rt, kRun_exc, kTry_ok, kTry_exc, nox_ok, eq_ii, eq_ss, si0, si1, si2, si3, si4, si5, si6, si7, si8, si9, si10, si11, si12, si13, si14, si15, b_add, b_sub, c_lt, c_le, c_gt, c_ge, eq_ii, eq_ss, c_eq, c_ne, k_abs, k_int, k_intB, k_lenT, k_lenL, k_lenS, x_tup, x_lst, gi0, si0, gi1, si1, gi2, si2, gi3, si3, gi4, si4, gi5, si5, gi6, si6, gi7, si7, gi8, si8, gi9, si9, gi10, si10, gi11, si11, gi12, si12, gi13, si13, gi14, si14, gi15, si15, ri0, ri1, ri2, ri3, ri4, ri5, ri6, ri7, ri8, ri9, ri10, ri11, ai0, ai1, ai2, ai3, ai4, ai5, ai6, ai7, ai8, ai9, List.map_cons, List.map_nil, List.cons_append, List.nil_append, List.append_nil, Option.map_some, R.bind_ok, Bool.not_true, Bool.not_false, if_true, if_false, Bool.false_eq_true, decide_true, decide_false, Nat.reduceSub, bindT, bindTs, List.length_cons, List.length_nil, sizeLine_eq, Nat.reduceAdd, Nat.reduceLeDiff, Nat.zero_add, decide_eq_true_eq, x_obj0, put0, put1, put2, ic0, ic1, ic2, ic3, ic4, ic5, ic6, ic7, ic8, ic9, ic10, ic11, ic12, ic13, ic14, ic15, ic16, ic17, ic18, ic19, ic20, ic21, ic22, ic23, Int.reduceEq, Int.reduceLT, Int.reduceLE, Int.reduceNeg, vB_var, vB_int, vB_str, vB_bl, vB_non, vB_glob, vB_tup, vB_lst, vB_dic0, vB_bin, vB_neg, vB_not, vB_and, vB_or, vB_cmp, vB_chain, vB_isN, vB_notN, vB_ifx, vB_sub, vB_slice, vB_call, vB_bi, vB_isi, vB_comp, vB_fmt, vB_fstr, vB_join, vB_own, rs_int, rs_str, rs_bl, rs_non, rs_tup, rs_lst, rs_dic, rs_scr, kFmt_ok, kJoin_ok, kJ_ok, kListM_ok, e_listM, e_fmt, e_fstr, e_join, j_nil, j_cons, kCmpC_ok, kCmpC_exc, s_ownAdd, s_appL, kOAdd_ok, kOAdd1_ok, addF_ok, sw_line_slide, sw_line_read, sw_line_try, sw_line_left, sw_line_right, sw_slide_line, sw_slide_read, sw_slide_try, sw_slide_left, sw_slide_right, sw_read_line, sw_read_slide, sw_read_try, sw_read_left, sw_read_right, sw_try_line, sw_try_slide, sw_try_read, sw_try_left, sw_try_right, sw_left_line, sw_left_slide, sw_left_read, sw_left_try, sw_left_right, sw_right_line, sw_right_slide, sw_right_read, sw_right_try, sw_right_left, it_lst, it_tup, kAppL_obj, kAppL1_ok, appF_ok, e_compI, cstep_ap, cst1_some, kCC_ok, kSome_ok, c_no, c_some, kCompI_ok, kCompE_ok, e_sset, e_lset, e_allL, i_seq, i_rng, i_rng2, i_enum, i_zip, kSeq_tup, kSeq_lst, kSeq_str, kSeq_exc, kRng2_ok, kEnum_lst, kZip_ok, kZip1_lst, vB_compI, vB_sset, vB_lset, vB_allL, rs_cdic, s_forI, s_ownExt, kForI_ok, kForI_exc, lstep_ap, lst1_some, kExt_lst, c_in, c_nin, s_aug, kAug_ok, au_add, au_sub, is_non_int, is_non_bool, is_non_str, is_non_tuple, is_non_list, is_non_dict, is_bl_int, is_bl_bool, is_bl_str, is_bl_tuple, is_bl_list, is_bl_dict, is_int_int, is_int_bool, is_int_str, is_int_tuple, is_int_list, is_int_dict, is_str_int, is_str_bool, is_str_str, is_str_tuple, is_str_list, is_str_dict, is_tup_int, is_tup_bool, is_tup_str, is_tup_tuple, is_tup_list, is_tup_dict, is_lst_int, is_lst_bool, is_lst_str, is_lst_tuple, is_lst_list, is_lst_dict, is_dic_int, is_dic_bool, is_dic_str, is_dic_tuple, is_dic_list, is_dic_dict, e_fld, e_prop, e_mcall, kFld_ok, kPrp_ok, kPrp1_some, kMth_ok, kMth1_some, kMth2_ok, rnox_ok, vB_fld, vB_prop, vB_mcall, s_setF, kSetF_ok, putD_nil, s_forT, setFF_0, setFF_1, setFF_2, setFF_3])
local macro_rules | `(tactic| walk_at "pvh") => `(tactic| simp only [e_var, e_int, e_str, e_bl, e_non, e_glob, e_tup, e_lst, e_lstM, e_dic0, e_bin, e_neg, e_not, e_and, e_or, e_cmp, e_chain, e_isN, e_notN, e_ifx, e_sub, e_slice, e_call, e_bi, e_isi, e_comp, es_nil, es_cons, o_no, o_some, t_val, t_and, t_or, t_not, t_cmp, t_chain, t_isN, t_notN, kCons_ok, kCons_exc, kCons1_ok, kCons1_exc, kTup_ok, kTup_exc, kLst_ok, kLst_exc, kLstM_ok, kCall_ok, kCall_exc, kBin_ok, kBin_exc, kBin1_ok, kBin1_exc, kNeg_ok, kNot_ok, kNot_exc, kAnd_ok, kAnd_exc, kOr_ok, kOr_exc, kCmp_ok, kCmp_exc, kCmp1_ok, kCmp1_exc, kCh_ok, kCh1_ok, kCh2_some, kIf_ok, kIf_exc, kSub_ok, kSub_exc, kSub1_ok, kSub1_exc, kSl_ok, kSl1_ok, kSl2_ok, kBi_ok, kBi_exc, kIsi_ok, kTru_bl, kTru_exc, kTAnd_ok, kTAnd_exc, kTOr_ok, kTOr_exc, kTNot_ok, kTNot_exc, kTB_ok, kTB_exc, kInt_ok, kIsN_non, kNotN_non, ofO_some, ss_nil, ss_cons, s_expr, s_set, s_par, s_asg, s_putL, s_ownNew, s_ownApp, s_freeze, s_ret, s_retN, s_ite, s_whl, s_forN, s_forR, s_brk, s_cont, s_pass, s_raise, s_try, sq_nx, sq_rt, sq_bk, sq_ct, sq_exc, kExpr_ok, kExpr_exc, kSet_ok, kSet_exc, kPar_ok, kPar_exc, kPar1_ok, kPar1_exc, kAsg_ok, kAsg_exc, kPut_ok, kPut1_ok, kPut2_ok, kOwn_ok, kApp_ok, kRet_ok, kRet_exc, kSIf_ok, kSIf_exc, kFor_tup, kFor_lst, kRun_nx, kRun_rt, kRun_exc, kTry_ok, kTry_exc, nox_ok, eq_ii, eq_ss, si0, si1, si2, si3, si4, si5, si6, si7, si8, si9, si10, si11, si12, si13, si14, si15, b_add, b_sub, c_lt, c_le, c_gt, c_ge, eq_ii, eq_ss, c_eq, c_ne, k_abs, k_int, k_intB, k_lenT, k_lenL, k_lenS, x_tup, x_lst, gi0, si0, gi1, si1, gi2, si2, gi3, si3, gi4, si4, gi5, si5, gi6, si6, gi7, si7, gi8, si8, gi9, si9, gi10, si10, gi11, si11, gi12, si12, gi13, si13, gi14, si14, gi15, si15, ri0, ri1, ri2, ri3, ri4, ri5, ri6, ri7, ri8, ri9, ri10, ri11, ai0, ai1, ai2, ai3, ai4, ai5, ai6, ai7, ai8, ai9, List.map_cons, List.map_nil, List.cons_append, List.nil_append, List.append_nil, Option.map_some, R.bind_ok, Bool.not_true, Bool.not_false, if_true, if_false, Bool.false_eq_true, decide_true, decide_false, Nat.reduceSub, bindT, bindTs, List.length_cons, List.length_nil, sizeLine_eq, Nat.reduceAdd, Nat.reduceLeDiff, Nat.zero_add, decide_eq_true_eq, x_obj0, put0, put1, put2, ic0, ic1, ic2, ic3, ic4, ic5, ic6, ic7, ic8, ic9, ic10, ic11, ic12, ic13, ic14, ic15, ic16, ic17, ic18, ic19, ic20, ic21, ic22, ic23, Int.reduceEq, Int.reduceLT, Int.reduceLE, Int.reduceNeg, vB_var, vB_int, vB_str, vB_bl, vB_non, vB_glob, vB_tup, vB_lst, vB_dic0, vB_bin, vB_neg, vB_not, vB_and, vB_or, vB_cmp, vB_chain, vB_isN, vB_notN, vB_ifx, vB_sub, vB_slice, vB_call, vB_bi, vB_isi, vB_comp, vB_fmt, vB_fstr, vB_join, vB_own, rs_int, rs_str, rs_bl, rs_non, rs_tup, rs_lst, rs_dic, rs_scr, kFmt_ok, kJoin_ok, kJ_ok, kListM_ok, e_listM, e_fmt, e_fstr, e_join, j_nil, j_cons, kCmpC_ok, kCmpC_exc, s_ownAdd, s_appL, kOAdd_ok, kOAdd1_ok, addF_ok, sw_line_slide, sw_line_read, sw_line_try, sw_line_left, sw_line_right, sw_slide_line, sw_slide_read, sw_slide_try, sw_slide_left, sw_slide_right, sw_read_line, sw_read_slide, sw_read_try, sw_read_left, sw_read_right, sw_try_line, sw_try_slide, sw_try_read, sw_try_left, sw_try_right, sw_left_line, sw_left_slide, sw_left_read, sw_left_try, sw_left_right, sw_right_line, sw_right_slide, sw_right_read, sw_right_try, sw_right_left, it_lst, it_tup, kAppL_obj, kAppL1_ok, appF_ok, e_compI, cstep_ap, cst1_some, kCC_ok, kSome_ok, c_no, c_some, kCompI_ok, kCompE_ok, e_sset, e_lset, e_allL, i_seq, i_rng, i_rng2, i_enum, i_zip, kSeq_tup, kSeq_lst, kSeq_str, kSeq_exc, kRng2_ok, kEnum_lst, kZip_ok, kZip1_lst, vB_compI, vB_sset, vB_lset, vB_allL, rs_cdic, s_forI, s_ownExt, kForI_ok, kForI_exc, lstep_ap, lst1_some, kExt_lst, c_in, c_nin, s_aug, kAug_ok, au_add, au_sub, is_non_int, is_non_bool, is_non_str, is_non_tuple, is_non_list, is_non_dict, is_bl_int, is_bl_bool, is_bl_str, is_bl_tuple, is_bl_list, is_bl_dict, is_int_int, is_int_bool, is_int_str, is_int_tuple, is_int_list, is_int_dict, is_str_int, is_str_bool, is_str_str, is_str_tuple, is_str_list, is_str_dict, is_tup_int, is_tup_bool, is_tup_str, is_tup_tuple, is_tup_list, is_tup_dict, is_lst_int, is_lst_bool, is_lst_str, is_lst_tuple, is_lst_list, is_lst_dict, is_dic_int, is_dic_bool, is_dic_str, is_dic_tuple, is_dic_list, is_dic_dict, e_fld, e_prop, e_mcall, kFld_ok, kPrp_ok, kPrp1_some, kMth_ok, kMth1_some, kMth2_ok, rnox_ok, vB_fld, vB_prop, vB_mcall, s_setF, kSetF_ok, putD_nil, s_forT, setFF_0, setFF_1, setFF_2, setFF_3, *])
def d_law_position : Df := ⟨5, 4, [],
    (.cons (.set 4 (.ifx (.cmp .gt (.var 0) (.int 0)) (.call "_law_minus" (.cons (.var 3) (.cons (.var 1) .nil))) (.call "_law_minus" (.cons (.var 1) (.cons (.var 3) .nil)))))
    (.cons (.ret (.call "_law_times" (.cons (.call "_law_plus" (.cons (.call "_law_part" (.cons (.var 4) .nil)) (.cons (.tup (.cons (.var 2) (.cons (.int 1) .nil))) .nil))) (.cons (.tup (.cons (.int 1) (.cons (.bi .abs (.var 0)) .nil))) .nil))))
    .nil)), false⟩
def d_law_spot : Df := ⟨4, 1, [],
    (.cons (.set 1 (.tup (.cons (.tup (.cons (.int 0) (.cons (.int 1) .nil))) (.cons (.tup (.cons (.int 1) (.cons (.int 1) .nil))) (.cons (.tup (.cons (.int 1) (.cons (.int 2) .nil))) (.cons (.tup (.cons (.int 1) (.cons (.int 3) .nil))) (.cons (.tup (.cons (.int 2) (.cons (.int 3) .nil))) .nil)))))))
    (.cons (.set 2 (.call "_law_take" (.cons (.var 0) (.cons (.int 9) .nil))))
    (.cons (.ite (.cmp .lt (.var 2) (.int 5))
    (.cons (.ret (.sub (.var 1) (.var 2)))
    .nil)
    .nil)
    (.cons (.set 3 (.bin .add (.int 1) (.call "_law_take" (.cons (.var 0) (.cons (.bin .pow (.int 10) (.int 6)) .nil)))))
    (.cons (.ret (.call "_law_frac" (.cons (.call "_law_take" (.cons (.var 0) (.cons (.bin .add (.var 3) (.int 1)) .nil))) (.cons (.var 3) .nil))))
    .nil))))), false⟩
section
open TL
variable {C : Cn} {t : Tbl}
/-! ### places and figures -/
def dsF (s : Sca) (m : Int × Int) : Int × Int := if 0 < s.t then suF m s.f else suF s.f m
def ptF (p : Int × Int) : Int × Int := (p.1 % p.2, p.2)
def plF (s : Sca) (k : Int) (m : Int × Int) : Int × Int := muF (adF (ptF (dsF s m)) (k, 1)) (1, (s.t.natAbs : Int))
def fiF (s : Sca) (p : Int × Int) : Int × Int := adF (muF p (s.t, 1)) s.f
structure PlT (C : Cn) (t : Tbl) : Prop where
  ru : RuT C t
  pa : t "part_of" = some d_part_of
  fl : t "floor_of" = some d_floor_of
  co : t "compare" = some d_compare
  pl : t "place" = some d_place
  fi : t "figure" = some d_figure
  z : C.con "ZERO" = some (pP (0, 1))
  o : C.con "ONE" = some (pP (1, 1))
structure LpT (t : Tbl) : Prop where
  fr : t "_law_frac" = some d_law_frac
  pl : t "_law_plus" = some d_law_plus
  mi : t "_law_minus" = some d_law_minus
  ti : t "_law_times" = some d_law_times
  pa : t "_law_part" = some d_law_part
theorem fr_pos {a b : Int} (hb : 0 < b) : 0 < (fr a b).2 := frB_pos (by omega)
theorem mulpos {a b : Int} (ha : 0 < a) (hb : 0 < b) : 0 < a * b := Int.mul_pos ha hb
theorem adF_pos {p q : Int × Int} (hp : 0 < p.2) (hq : 0 < q.2) : 0 < (adF p q).2 := fr_pos (mulpos hp hq)
theorem suF_pos {p q : Int × Int} (hp : 0 < p.2) (hq : 0 < q.2) : 0 < (suF p q).2 := fr_pos (mulpos hp hq)
theorem muF_pos {p q : Int × Int} (hp : 0 < p.2) (hq : 0 < q.2) : 0 < (muF p q).2 := fr_pos (mulpos hp hq)
theorem fr_up {a b : Int} {j k : Nat} (ha : a.natAbs < 2 ^ j) (hb : b.natAbs < 2 ^ k) : (fr a b).1.natAbs < 2 ^ j ∧ (fr a b).2.natAbs < 2 ^ k :=
  ⟨Nat.lt_of_le_of_lt (frN_le a b) ha, Nat.lt_of_le_of_lt (frB_le a b) hb⟩
theorem adF_up {p q : Int × Int} {j k : Nat} (h1 : p.1.natAbs < 2 ^ j) (h2 : p.2.natAbs < 2 ^ j) (h3 : q.1.natAbs < 2 ^ k) (h4 : q.2.natAbs < 2 ^ k) : (adF p q).1.natAbs < 2 ^ (j + k + 1) ∧ (adF p q).2.natAbs < 2 ^ (j + k) :=
  fr_up (add_up (mul_up h1 h4 (Nat.le_refl _)) (mul_up h3 h2 (by omega))) (mul_up h2 h4 (Nat.le_refl _))
theorem suF_up {p q : Int × Int} {j k : Nat} (h1 : p.1.natAbs < 2 ^ j) (h2 : p.2.natAbs < 2 ^ j) (h3 : q.1.natAbs < 2 ^ k) (h4 : q.2.natAbs < 2 ^ k) : (suF p q).1.natAbs < 2 ^ (j + k + 1) ∧ (suF p q).2.natAbs < 2 ^ (j + k) :=
  fr_up (sub_up (mul_up h1 h4 (Nat.le_refl _)) (mul_up h3 h2 (by omega))) (mul_up h2 h4 (Nat.le_refl _))
theorem muF_up {p q : Int × Int} {j k : Nat} (h1 : p.1.natAbs < 2 ^ j) (h2 : p.2.natAbs < 2 ^ j) (h3 : q.1.natAbs < 2 ^ k) (h4 : q.2.natAbs < 2 ^ k) : (muF p q).1.natAbs < 2 ^ (j + k) ∧ (muF p q).2.natAbs < 2 ^ (j + k) :=
  fr_up (mul_up h1 h3 (Nat.le_refl _)) (mul_up h2 h4 (Nat.le_refl _))
theorem Mant.up {p : Int × Int} (h : Mant p) : p.1.natAbs < 2 ^ 20 ∧ p.2.natAbs < 2 ^ 20 := by
  have h1 := h.lo
  have h2 := h.hi
  have h3 := h.top
  constructor <;> omega
theorem dsF_ok {c : Nat} {s : Sca} {m : Int × Int} (hs : ScOk c s) (hm : Mant m) : 0 < (dsF s m).2 ∧ (dsF s m).1.natAbs < 2 ^ 41 ∧ (dsF s m).2.natAbs < 2 ^ 40 := by
  have a := hm.up
  have b := hs.f.up
  unfold dsF
  split
  · have := suF_up a.1 a.2 b.1 b.2
    exact ⟨suF_pos hm.gd.pos hs.f.gd.pos, this.1, this.2⟩
  · have := suF_up b.1 b.2 a.1 a.2
    exact ⟨suF_pos hs.f.gd.pos hm.gd.pos, this.1, this.2⟩
theorem ptF_up {p : Int × Int} (h : 0 < p.2) : 0 ≤ (ptF p).1 ∧ (ptF p).1 < p.2 := ⟨Int.emod_nonneg _ (by omega), Int.emod_lt_of_pos _ h⟩
theorem abs3 {c : Nat} {s : Sca} (hs : ScOk c s) : 0 < (s.t.natAbs : Int) ∧ (s.t.natAbs : Int) ≤ 3 := by
  have := hs.t0
  have := hs.t1
  have := hs.t2
  omega
theorem plF_up {c : Nat} {s : Sca} {k : Int} {m : Int × Int} (hs : ScOk c s) (hm : Mant m) (h0 : 0 ≤ k) (h1 : k < (s.t.natAbs : Int)) : 0 < (plF s k m).2 ∧ (plF s k m).1.natAbs < 2 ^ 60 ∧ (plF s k m).2.natAbs < 2 ^ 60 := by
  obtain ⟨d1, d2, d3⟩ := dsF_ok hs hm
  obtain ⟨e1, e2⟩ := ptF_up d1
  obtain ⟨f1, f2⟩ := abs3 hs
  have g1 : (ptF (dsF s m)).1.natAbs < 2 ^ 40 := by omega
  have a := adF_up (p := ptF (dsF s m)) (q := (k, 1)) (j := 40) (k := 2) g1 d3 (by show k.natAbs < 4; omega) (by show (1 : Int).natAbs < 4; decide)
  have b := muF_up (p := adF (ptF (dsF s m)) (k, 1)) (q := (1, (s.t.natAbs : Int))) (j := 43) (k := 2) a.1 (pow_up a.2 (by decide)) (by show (1 : Int).natAbs < 4; decide) (by show ((s.t.natAbs : Int)).natAbs < 4; omega)
  exact ⟨muF_pos (adF_pos d1 (show (0 : Int) < 1 by decide)) (by exact f1), pow_up b.1 (by decide), pow_up b.2 (by decide)⟩
theorem ptP {p : Int × Int} : pP (p.1 % p.2, p.2) = pP (ptF p) := rfl
theorem pk1 {k : Int} : D.tup [.int k, .int 1] = pP (k, 1) := rfl
theorem p1k {k : Int} : D.tup [.int 1, .int k] = pP (1, k) := rfl
theorem place_ok (w : PlT C t) (n : Nat) (st : S) {r : Rl} (h : RlOk r) {s : Sca} (hs : s ∈ r.b ++ r.s) {k : Int} (h0 : 0 ≤ k) (h1 : k < (s.t.natAbs : Int)) {m : Int × Int} (hm : Mant m) :
    callN C t (n + 4) "place" [ruD r, .str s.n, .int k, pP m] st = .ok (pP (plF s k m)) st := by
  obtain ⟨c, hc, oc⟩ := h.okc s hs
  obtain ⟨d1, d2, d3⟩ := dsF_ok oc hm
  obtain ⟨e1, e2⟩ := ptF_up d1
  obtain ⟨f1, f2⟩ := abs3 oc
  have q1 := rscale_ok w.ru (n + 2) st h hs
  have q2 := is_integer_int (C := C) w.ru.ft.ii (n + 2) k st
  have q3 := is_mant_ok (C := C) w.ru.ft w.ru.mant n hm st
  have q4 : ∀ p q, Mant p → Mant q → callN C t (n + 3) "minus" [pP p, pP q] st = .ok (pP (suF p q)) st := fun p q hp hq => minus_ok (C := C) w.ru.ft.ii w.ru.ft.cd w.ru.fra w.ru.mi n hp.gd.pos (pow_up hp.gd.b (by decide)) hq.gd st
  have q5 := part_of_ok (C := C) w.pa (n + 2) (p := dsF s m) d1 st
  have q6 := plus_ok (C := C) w.ru.ft.ii w.ru.ft.cd w.ru.fra w.ru.pl n (p := ptF (dsF s m)) (q := (k, 1)) d1 (pow_up d3 (by decide)) ⟨show (0 : Int) < 1 by decide, by show k.natAbs < _; omega, show (1 : Int).natAbs < _ by decide⟩ st
  have g1 : (ptF (dsF s m)).1.natAbs < 2 ^ 40 := by omega
  have a := adF_up (p := ptF (dsF s m)) (q := (k, 1)) (j := 40) (k := 2) g1 d3 (by show k.natAbs < 4; omega) (by show (1 : Int).natAbs < 4; decide)
  have q7 := times_ok (C := C) w.ru.ft.ii w.ru.ft.cd w.ru.fra w.ru.ti n (p := adF (ptF (dsF s m)) (k, 1)) (q := (1, (s.t.natAbs : Int))) (adF_pos d1 (show (0 : Int) < 1 by decide)) (pow_up a.2 (by decide)) ⟨f1, show (1 : Int).natAbs < _ by decide, by show ((s.t.natAbs : Int)).natAbs < _; omega⟩ st
  rw [ptP] at q5
  simp only [ruD] at q1
  rw [call_run w.pl rfl]
  simp only [d_place, ruD]
  walk_at "p"
  rw [w.ru.mS]
  walk_at "p"
  rw [q1]
  walk_at "p"
  rw [q2]
  walk_at "p"
  simp only [h0, h1]
  walk_at "p"
  rw [q3]
  walk_at "p"
  unfold plF
  by_cases ht : 0 < s.t
  · have ed : dsF s m = suF m s.f := if_pos ht
    rw [ed] at q5 q6 q7 ⊢
    simp only [ht]
    walk_at "p"
    rw [q4 _ _ hm oc.f]
    walk_at "p"
    rw [q5]
    walk_at "p"
    rw [pk1, q6]
    walk_at "p"
    rw [p1k, q7]
    walk_at "p"
  · have ed : dsF s m = suF s.f m := if_neg ht
    rw [ed] at q5 q6 q7 ⊢
    simp only [ht]
    walk_at "p"
    rw [q4 _ _ oc.f hm]
    walk_at "p"
    rw [q5]
    walk_at "p"
    rw [pk1, q6]
    walk_at "p"
    rw [p1k, q7]
    walk_at "p"
theorem position_ok (w : LpT t) (ht : t "_law_position" = some d_law_position) (n : Nat) (st : S) {c : Nat} {s : Sca} (oc : ScOk c s) {k : Int} (h0 : 0 ≤ k) (h1 : k < (s.t.natAbs : Int)) {m : Int × Int} (hm : Mant m) :
    callN C t (n + 3) "_law_position" [.int s.t, pP s.f, .int k, pP m] st = .ok (pP (plF s k m)) st := by
  obtain ⟨d1, d2, d3⟩ := dsF_ok oc hm
  obtain ⟨e1, e2⟩ := ptF_up d1
  obtain ⟨f1, f2⟩ := abs3 oc
  have q4 : ∀ p q, Mant p → Mant q → callN C t (n + 2) "_law_minus" [pP p, pP q] st = .ok (pP (suF p q)) st := fun p q hp hq => law_minus_ok (C := C) w.fr w.mi n hp.gd.pos (pow_up hp.gd.b (by decide)) hq.gd st
  have q5 := law_part_ok (C := C) w.pa (n + 1) (p := dsF s m) d1 st
  have q6 := law_plus_ok (C := C) w.fr w.pl n (p := ptF (dsF s m)) (q := (k, 1)) d1 (pow_up d3 (by decide)) ⟨show (0 : Int) < 1 by decide, by show k.natAbs < _; omega, show (1 : Int).natAbs < _ by decide⟩ st
  have g1 : (ptF (dsF s m)).1.natAbs < 2 ^ 40 := by omega
  have a := adF_up (p := ptF (dsF s m)) (q := (k, 1)) (j := 40) (k := 2) g1 d3 (by show k.natAbs < 4; omega) (by show (1 : Int).natAbs < 4; decide)
  have q7 := law_times_ok (C := C) w.fr w.ti n (p := adF (ptF (dsF s m)) (k, 1)) (q := (1, (s.t.natAbs : Int))) (adF_pos d1 (show (0 : Int) < 1 by decide)) (pow_up a.2 (by decide)) ⟨f1, show (1 : Int).natAbs < _ by decide, by show ((s.t.natAbs : Int)).natAbs < _; omega⟩ st
  rw [ptP] at q5
  rw [call_run ht rfl]
  simp only [d_law_position]
  walk_at "p"
  unfold plF
  by_cases ht : 0 < s.t
  · have ed : dsF s m = suF m s.f := if_pos ht
    rw [ed] at q5 q6 q7 ⊢
    simp only [ht]
    walk_at "p"
    rw [q4 _ _ hm oc.f]
    walk_at "p"
    rw [q5]
    walk_at "p"
    rw [pk1, q6]
    walk_at "p"
    rw [p1k, q7]
    walk_at "p"
  · have ed : dsF s m = suF s.f m := if_neg ht
    rw [ed] at q5 q6 q7 ⊢
    simp only [ht]
    walk_at "p"
    rw [q4 _ _ oc.f hm]
    walk_at "p"
    rw [q5]
    walk_at "p"
    rw [pk1, q6]
    walk_at "p"
    rw [p1k, q7]
    walk_at "p"
/-- a position: lowest terms, from 0 to 1 -/
structure Posi (p : Int × Int) : Prop where
  pos : 0 < p.2
  lo : 0 ≤ p.1
  hi : p.1 ≤ p.2
  one : Int.gcd p.1 p.2 = 1
  top : p.2 < 2 ^ 60
theorem Posi.up {p : Int × Int} (h : Posi p) : p.1.natAbs < 2 ^ 60 ∧ p.2.natAbs < 2 ^ 60 := by
  have h1 := h.lo
  have h2 := h.hi
  have h3 := h.top
  constructor <;> omega
theorem Posi.fr {a b : Int} (ha : 0 ≤ a) (hb : a ≤ b) (h0 : 0 < b) (hz : b < 2 ^ 60) : Posi (fr a b) := by
  have b0 : b ≠ 0 := by omega
  have hg : (0 : Int) < (Int.gcd a b : Nat) := by have := gcd_pos (a := a) b0; omega
  have hn : ¬ b < 0 := by omega
  have d1 : ((Int.gcd a b : Nat) : Int) ∣ a := Int.gcd_dvd_left a b
  have d2 : ((Int.gcd a b : Nat) : Int) ∣ b := Int.gcd_dvd_right a b
  have e1 : (PV.fr a b).1 = a / (Int.gcd a b : Nat) := by simp only [PV.fr, frN, hn, if_false]
  have e2 : (PV.fr a b).2 = b / (Int.gcd a b : Nat) := by simp only [PV.fr, frB, hn, if_false]
  refine ⟨fr_pos h0, ?_, ?_, ?_, ?_⟩
  · rw [e1]; exact Int.ediv_nonneg ha (by omega)
  · rw [e1, e2]
    exact Int.ediv_le_ediv hg hb
  · rw [e1, e2]
    exact Int.gcd_ediv_gcd_ediv_gcd (by omega)
  · rw [e2]
    exact Int.lt_of_le_of_lt (Int.ediv_le_self _ (by omega)) hz
theorem fr_one (a : Int) : fr a 1 = (a, 1) := by
  have e : Int.gcd a 1 = 1 := Int.gcd_one_right a
  unfold fr frN frB
  rw [e]
  simp
theorem fiF_up {c : Nat} {s : Sca} {p : Int × Int} (hs : ScOk c s) (hp : Posi p) : 0 < (muF p (s.t, 1)).2 ∧ (muF p (s.t, 1)).2.natAbs < 2 ^ 62 ∧ 0 < (fiF s p).2 ∧ (fiF s p).1.natAbs < 2 ^ 90 ∧ (fiF s p).2.natAbs < 2 ^ 90 := by
  obtain ⟨f1, f2⟩ := abs3 hs
  have a := hp.up
  have b := hs.f.up
  have m := muF_up (p := p) (q := (s.t, 1)) (j := 60) (k := 2) a.1 a.2 (by show s.t.natAbs < 4; omega) (by show (1 : Int).natAbs < 4; decide)
  have m2 := muF_pos (p := p) (q := (s.t, 1)) hp.pos (show (0 : Int) < 1 by decide)
  have d := adF_up (p := muF p (s.t, 1)) (q := s.f) (j := 62) (k := 20) m.1 m.2 b.1 b.2
  exact ⟨m2, m.2, adF_pos m2 hs.f.gd.pos, pow_up d.1 (by decide), pow_up d.2 (by decide)⟩
theorem sg_neg {i : Int} (h : 0 ≤ i) : ¬ sgD i < 0 := by
  unfold sgD
  split <;> split <;> omega
theorem sg_pos {i : Int} (h : i ≤ 0) : ¬ 0 < sgD i := by
  unfold sgD
  split <;> split <;> omega
theorem figure_okP (w : PlT C t) (n : Nat) (st : S) {r : Rl} (h : RlOk r) {s : Sca} (hs : s ∈ r.b ++ r.s) {p : Int × Int} (hp : Posi p) :
    callN C t (n + 4) "figure" [ruD r, .str s.n, pP p] st = .ok (.tup [.int ((fiF s p).1 / (fiF s p).2), pP (ptF (fiF s p))]) st := by
  obtain ⟨c, hc, oc⟩ := h.okc s hs
  obtain ⟨f1, f2⟩ := abs3 oc
  obtain ⟨m1, m2, m3, m4, m5⟩ := fiF_up oc hp
  have q1 := rscale_ok w.ru (n + 2) st h hs
  have q2 := isfr_pair (C := C) w.ru.ft (n + 1) (a := p.1) (b := p.2) (pow_up hp.up.2 (by decide)) st
  rw [decide_eq_true ⟨hp.pos, hp.one⟩] at q2
  have q3 := compare_ok (C := C) w.co (n + 2) (p := p) (q := (0, 1)) ⟨by decide, by decide, by decide⟩ st
  have q4 := compare_ok (C := C) w.co (n + 2) (p := p) (q := (1, 1)) ⟨by decide, by decide, by decide⟩ st
  have q5 : callN C t (n + 3) "fraction" [.int s.t] st = .ok (pP (s.t, 1)) st := by
    have := fraction_ok (C := C) w.ru.ft.ii w.ru.ft.cd w.ru.fra (n + 1) (a := s.t) (b := 1) (by decide) (by decide) st
    rw [frD_eq, fr_one] at this
    rw [← this, call_dfl w.ru.fra (by simp [d_fraction]) (by simp [d_fraction]), call_run w.ru.fra rfl]
    rfl
  have q6 := times_ok (C := C) w.ru.ft.ii w.ru.ft.cd w.ru.fra w.ru.ti n (p := p) (q := (s.t, 1)) hp.pos (pow_up hp.up.2 (by decide)) ⟨show (0 : Int) < 1 by decide, by show s.t.natAbs < _; omega, show (1 : Int).natAbs < _ by decide⟩ st
  have q7 := plus_ok (C := C) w.ru.ft.ii w.ru.ft.cd w.ru.fra w.ru.pl n (p := muF p (s.t, 1)) (q := s.f) m1 (pow_up m2 (by decide)) oc.f.gd st
  have q8 := floor_of_ok (C := C) w.fl (n + 2) (p := fiF s p) m3 (pow_up m5 (by decide)) st
  have q9 := part_of_ok (C := C) w.pa (n + 2) (p := fiF s p) m3 st
  have l1 : ¬ sgD (p.1 * 1 - 0 * p.2) < 0 := sg_neg (by have := hp.lo; omega)
  have l2 : ¬ 0 < sgD (p.1 * 1 - 1 * p.2) := sg_pos (by have := hp.hi; omega)
  simp only [ruD] at q1
  rw [call_run w.fi rfl]
  simp only [d_figure, ruD]
  walk_at "p"
  rw [w.ru.mS]
  walk_at "p"
  rw [q1]
  walk_at "p"
  rw [show pP p = D.tup [.int p.1, .int p.2] from rfl, q2]
  walk_at "p"
  rw [w.z]
  walk_at "p"
  rw [show D.tup [.int p.1, .int p.2] = pP p from rfl, q3]
  walk_at "p"
  simp only [l1]
  walk_at "p"
  rw [w.o]
  walk_at "p"
  rw [q4]
  walk_at "p"
  simp only [l2]
  walk_at "p"
  rw [q5]
  walk_at "p"
  rw [q6]
  walk_at "p"
  rw [q7]
  walk_at "p"
  rw [show adF (muF p (s.t, 1)) s.f = fiF s p from rfl, q8]
  walk_at "p"
  rw [q9]
  walk_at "p"
  rfl
theorem spot_ok (hk : t "_law_take" = some d_law_take) (hf : t "_law_frac" = some d_law_frac) (ht : t "_law_spot" = some d_law_spot) (n : Nat) {rest st : S} (dk : Deck rest st) :
    ∃ p st', callN C t (n + 2) "_law_spot" [.obj 0] st = .ok (pP p) st' ∧ Posi p ∧ Deck rest st' := by
  obtain ⟨k, st1, h1, a1, b1, dk1⟩ := take_ok (C := C) hk n (l := 9) (by decide) (by decide) dk
  have p6 : binD .pow (.int 10) (.int 6) = some (.int 1000000) := b_pow ⟨by decide, by decide, by decide⟩
  rw [call_run ht rfl]
  by_cases hk5 : k < 5
  · have some_ : ∃ p : Int × Int, L2.atI [D.tup [.int 0, .int 1], .tup [.int 1, .int 1], .tup [.int 1, .int 2], .tup [.int 1, .int 3], .tup [.int 2, .int 3]] k = some (pP p) ∧ Posi p := by
      have hc : k = 0 ∨ k = 1 ∨ k = 2 ∨ k = 3 ∨ k = 4 := by omega
      rcases hc with rfl | rfl | rfl | rfl | rfl
      · exact ⟨(0, 1), rfl, by decide, by decide, by decide, by decide, by decide⟩
      · exact ⟨(1, 1), rfl, by decide, by decide, by decide, by decide, by decide⟩
      · exact ⟨(1, 2), rfl, by decide, by decide, by decide, by decide, by decide⟩
      · exact ⟨(1, 3), rfl, by decide, by decide, by decide, by decide, by decide⟩
      · exact ⟨(2, 3), rfl, by decide, by decide, by decide, by decide, by decide⟩
    obtain ⟨p, hat, hp⟩ := some_
    refine ⟨p, st1, ?_, hp, dk1⟩
    simp only [d_law_spot]
    walk_at "p"
    rw [h1]
    walk_at "p"
    simp only [hk5]
    walk_at "p"
    rw [hat]
    walk_at "p"
  · obtain ⟨u, st2, h2, a2, b2, dk2⟩ := take_ok (C := C) hk n (l := 1000000) (by decide) (by decide) dk1
    obtain ⟨v, st3, h3, a3, b3, dk3⟩ := take_ok (C := C) hk n (l := 1 + u + 1) (by omega) (pow_up (j := 64) (by omega) (by decide)) dk2
    have f := law_frac_ok (C := C) hf n (a := v) (b := 1 + u) (by omega) (pow_up (j := 64) (by omega) (by decide)) st3
    rw [frD_eq] at f
    refine ⟨fr v (1 + u), st3, ?_, ?_, dk3⟩
    · simp only [d_law_spot]
      walk_at "p"
      rw [h1]
      walk_at "p"
      simp only [hk5]
      walk_at "p"
      rw [p6]
      walk_at "p"
      rw [h2]
      walk_at "p"
      rw [h3]
      walk_at "p"
      rw [f]
      walk_at "p"
    · exact Posi.fr a3 (by omega) (by omega) (by omega)
end
end PV

set_option Elab.async false
set_option linter.all false
set_option maxRecDepth 100000
set_option maxHeartbeats 0
set_option exponentiation.threshold 30000
namespace LW
open PySem PySem.Spec PyProof.Rows L2 PV
def top (i : Nat) : Stmt := PySem.Challenge.pw_offscale_k14_places_and_figures.main.body.getD i (.Pass ⟨0, 0, 0, 0⟩)
def cbody (s : Stmt) : List Stmt := match s with
  | .ClassDef _ _ _ b _ _ _ _ _ _ _ => b
  | _ => []
def mth (i j : Nat) : Stmt := (cbody (top i)).getD j (.Pass ⟨0, 0, 0, 0⟩)
def d_wall_b1 : Ss := (.cons .pass
    .nil)
def d_wall : Df := ⟨1, 1, [],
    (.cons (.whl (.val (.bl true)) d_wall_b1)
    .nil), false⟩
def d_is_scale_name : Df := ⟨2, 1, [],
    (.cons (.ite (.or (.not (.val (.isi (.var 0) .str))) (.not (.chain .le .le (.int 1) (.bi .len (.var 0)) (.glob "MAX_LETTERS"))))
    (.cons (.ret (.bl false))
    .nil)
    .nil)
    (.cons (.ret (.allL (.compI (.cmp .in_ (.var 1) (.glob "CAPITALS")) (.nm 1) (.seq (.var 0)) .no)))
    .nil)), false⟩
def d_law_b1 : Ss := (.cons (.set 9 (.ifx (.cmp .eq (.call "_law_take" (.cons (.var 1) (.cons (.int 4) .nil))) (.int 0)) (.var 8) (.call "_law_mantissa" (.cons (.var 1) .nil))))
    (.cons (.set 10 (.call "_law_take" (.cons (.var 1) (.cons (.bi .abs (.var 7)) .nil))))
    (.cons (.ite (.cmp .ne (.bi .repr (.call "place" (.cons (.var 3) (.cons (.var 6) (.cons (.var 10) (.cons (.var 9) .nil)))))) (.bi .repr (.call "_law_position" (.cons (.var 7) (.cons (.var 8) (.cons (.var 10) (.cons (.var 9) .nil)))))))
    (.cons (.ret (.bl false))
    .nil)
    .nil)
    (.cons (.set 11 (.call "_law_spot" (.cons (.var 1) .nil)))
    (.cons (.set 12 (.call "_law_plus" (.cons (.call "_law_times" (.cons (.var 11) (.cons (.tup (.cons (.var 7) (.cons (.int 1) .nil))) .nil))) (.cons (.var 8) .nil))))
    (.cons (.ite (.cmp .ne (.bi .repr (.call "figure" (.cons (.var 3) (.cons (.var 6) (.cons (.var 11) .nil))))) (.bi .repr (.tup (.cons (.bin .fdiv (.sub (.var 12) (.int 0)) (.sub (.var 12) (.int 1))) (.cons (.call "_law_part" (.cons (.var 12) .nil)) .nil)))))
    (.cons (.ret (.bl false))
    .nil)
    .nil)
    .nil))))))
def d_law_b2 : Ss := (.cons (.asg (.tup (.cons (.nm 4) (.cons (.nm 5) .nil))) (.call "_law_scales" (.cons (.var 1) .nil)))
    (.cons (.set 3 (.call "Rule" (.cons (.var 4) (.cons (.var 5) .nil))))
    (.cons (.for_ (.tup (.cons (.nm 6) (.cons (.nm 7) (.cons (.nm 8) .nil)))) (.bin .add (.var 4) (.var 5)) d_law_b1)
    .nil)))
def d_law : Df := ⟨13, 1, [],
    (.cons (.set 1 (.call "_law_deck" (.cons (.var 0) .nil)))
    (.cons (.forR 2 (.int 4) d_law_b2)
    (.cons (.ret (.bl true))
    .nil))), false⟩
def d_Rule_body : Df := ⟨1, 1, [],
    (.cons (.ret (.fld (.var 0) "fixed"))
    .nil), false⟩
def d_Rule_slide : Df := ⟨1, 1, [],
    (.cons (.ret (.fld (.var 0) "moving"))
    .nil), false⟩
def d_Rule_is_sliding : Df := ⟨2, 2, [],
    (.cons (.expr (.call "_wall" (.cons (.int 0) .nil)))
    .nil), false⟩
def fs : List String := ["_wall", "is_integer", "common_divisor", "is_fraction", "is_mantissa", "fraction", "plus", "minus", "times", "compare", "floor_of", "part_of", "is_scale_name", "is_scale", "rule_word", "place", "figure", "_law_deck", "_law_take", "_law_frac", "_law_plus", "_law_minus", "_law_times", "_law_part", "_law_mantissa", "_law_scales", "_law_position", "_law_spot", "law", "Rule"]
def tbl : Tbl := fun f => match f with
  | "_wall" => some d_wall
  | "is_integer" => some d_is_integer
  | "common_divisor" => some d_common_divisor
  | "is_fraction" => some d_is_fraction
  | "is_mantissa" => some d_is_mantissa
  | "fraction" => some d_fraction
  | "plus" => some d_plus
  | "minus" => some d_minus
  | "times" => some d_times
  | "compare" => some d_compare
  | "floor_of" => some d_floor_of
  | "part_of" => some d_part_of
  | "is_scale_name" => some d_is_scale_name
  | "is_scale" => some d_is_scale
  | "rule_word" => some d_rule_word
  | "place" => some d_place
  | "figure" => some d_figure
  | "_law_deck" => some d_law_deck
  | "_law_take" => some d_law_take
  | "_law_frac" => some d_law_frac
  | "_law_plus" => some d_law_plus
  | "_law_minus" => some d_law_minus
  | "_law_times" => some d_law_times
  | "_law_part" => some d_law_part
  | "_law_mantissa" => some d_law_mantissa
  | "_law_scales" => some d_law_scales
  | "_law_position" => some d_law_position
  | "_law_spot" => some d_law_spot
  | "law" => some d_law
  | "Rule.body" => some d_Rule_body
  | "Rule.slide" => some d_Rule_slide
  | "Rule.scale" => some d_Rule_scale
  | "Rule.is_sliding" => some d_Rule_is_sliding
  | _ => none
def cs : List (String × D) := [("MAX_TURNS", .int 3), ("MAX_SCALES", .int 6), ("ZERO", .tup [.int 0, .int 1]), ("ONE", .tup [.int 1, .int 1]), ("MAX_LETTERS", .int 3), ("CAPITALS", .str (Str.ofString "ABCDEFGHIJKLMNOPQRSTUVWXYZ")), ("COMMON_BODY", .tup [.tup [.str (Str.ofString "A"), .int 2, .tup [.int 0, .int 1]], .tup [.str (Str.ofString "D"), .int 1, .tup [.int 0, .int 1]], .tup [.str (Str.ofString "K"), .int 3, .tup [.int 0, .int 1]]]), ("COMMON_SLIDE", .tup [.tup [.str (Str.ofString "B"), .int 2, .tup [.int 0, .int 1]], .tup [.str (Str.ofString "C"), .int 1, .tup [.int 0, .int 1]], .tup [.str (Str.ofString "CI"), .int (-1), .tup [.int 0, .int 1]]])]
def ts : List Tb := []
def cn : Cn := ⟨conOf cs ts, fun a c => match a, c with
  | "NoFraction", "NoFraction" => some true
  | _, _ => none, fun c => match c with
  | "NoFraction" => true
  | _ => false, fun c m => match c, m with
  | "Rule", "body" => some "Rule.body"
  | "Rule", "slide" => some "Rule.slide"
  | "Rule", "scale" => some "Rule.scale"
  | "Rule", "is_sliding" => some "Rule.is_sliding"
  | _, _ => none, fun c => match c with
  | "Rule" => some d_Rule
  | _ => none⟩
def bn : List Str := bNames
def clsL : List String := ["Rule"]
def fa : List He.Fa := (bn.map He.Fa.free ++ [.exc "NoFraction", .exm "NoFraction" "NoFraction" true, .glo "NoFraction", .glo "_wall", .glo "is_integer", .glo "common_divisor", .glo "is_fraction", .glo "is_mantissa", .glo "fraction", .glo "plus", .glo "minus", .glo "times", .glo "compare", .glo "floor_of", .glo "part_of", .glo "is_scale_name", .glo "is_scale", .glo "rule_word", .glo "place", .glo "figure", .glo "_law_deck", .glo "_law_take", .glo "_law_frac", .glo "_law_plus", .glo "_law_minus", .glo "_law_times", .glo "_law_part", .glo "_law_mantissa", .glo "_law_scales", .glo "_law_position", .glo "_law_spot", .glo "law", .glo "Rule", .mkr "Rule", .meth "Rule" "scale", .meth "Rule" "is_sliding"]) ++ clsF clsL
def h_d_wall : He.DefD := ⟨("_wall", none), "_wall", "_wall", defArgs (top 0), defBody (top 0), defScope (top 0), [], []⟩
def h_d_is_integer : He.DefD := ⟨("is_integer", none), "is_integer", "is_integer", defArgs (top 14), defBody (top 14), defScope (top 14), [], []⟩
def h_d_common_divisor : He.DefD := ⟨("common_divisor", none), "common_divisor", "common_divisor", defArgs (top 15), defBody (top 15), defScope (top 15), [], []⟩
def h_d_is_fraction : He.DefD := ⟨("is_fraction", none), "is_fraction", "is_fraction", defArgs (top 16), defBody (top 16), defScope (top 16), [], []⟩
def h_d_is_mantissa : He.DefD := ⟨("is_mantissa", none), "is_mantissa", "is_mantissa", defArgs (top 17), defBody (top 17), defScope (top 17), [], []⟩
def h_d_fraction : He.DefD := ⟨("fraction", none), "fraction", "fraction", defArgs (top 18), defBody (top 18), defScope (top 18), [.int 1], []⟩
def h_d_plus : He.DefD := ⟨("plus", none), "plus", "plus", defArgs (top 19), defBody (top 19), defScope (top 19), [], []⟩
def h_d_minus : He.DefD := ⟨("minus", none), "minus", "minus", defArgs (top 20), defBody (top 20), defScope (top 20), [], []⟩
def h_d_times : He.DefD := ⟨("times", none), "times", "times", defArgs (top 21), defBody (top 21), defScope (top 21), [], []⟩
def h_d_compare : He.DefD := ⟨("compare", none), "compare", "compare", defArgs (top 22), defBody (top 22), defScope (top 22), [], []⟩
def h_d_floor_of : He.DefD := ⟨("floor_of", none), "floor_of", "floor_of", defArgs (top 23), defBody (top 23), defScope (top 23), [], []⟩
def h_d_part_of : He.DefD := ⟨("part_of", none), "part_of", "part_of", defArgs (top 24), defBody (top 24), defScope (top 24), [], []⟩
def h_d_is_scale_name : He.DefD := ⟨("is_scale_name", none), "is_scale_name", "is_scale_name", defArgs (top 30), defBody (top 30), defScope (top 30), [], []⟩
def h_d_is_scale : He.DefD := ⟨("is_scale", none), "is_scale", "is_scale", defArgs (top 31), defBody (top 31), defScope (top 31), [], []⟩
def h_d_rule_word : He.DefD := ⟨("rule_word", none), "rule_word", "rule_word", defArgs (top 32), defBody (top 32), defScope (top 32), [], []⟩
def h_d_place : He.DefD := ⟨("place", none), "place", "place", defArgs (top 34), defBody (top 34), defScope (top 34), [], []⟩
def h_d_figure : He.DefD := ⟨("figure", none), "figure", "figure", defArgs (top 35), defBody (top 35), defScope (top 35), [], []⟩
def h_d_law_deck : He.DefD := ⟨("_law_deck", none), "_law_deck", "_law_deck", defArgs (top 37), defBody (top 37), defScope (top 37), [], []⟩
def h_d_law_take : He.DefD := ⟨("_law_take", none), "_law_take", "_law_take", defArgs (top 38), defBody (top 38), defScope (top 38), [], []⟩
def h_d_law_frac : He.DefD := ⟨("_law_frac", none), "_law_frac", "_law_frac", defArgs (top 39), defBody (top 39), defScope (top 39), [], []⟩
def h_d_law_plus : He.DefD := ⟨("_law_plus", none), "_law_plus", "_law_plus", defArgs (top 40), defBody (top 40), defScope (top 40), [], []⟩
def h_d_law_minus : He.DefD := ⟨("_law_minus", none), "_law_minus", "_law_minus", defArgs (top 41), defBody (top 41), defScope (top 41), [], []⟩
def h_d_law_times : He.DefD := ⟨("_law_times", none), "_law_times", "_law_times", defArgs (top 42), defBody (top 42), defScope (top 42), [], []⟩
def h_d_law_part : He.DefD := ⟨("_law_part", none), "_law_part", "_law_part", defArgs (top 43), defBody (top 43), defScope (top 43), [], []⟩
def h_d_law_mantissa : He.DefD := ⟨("_law_mantissa", none), "_law_mantissa", "_law_mantissa", defArgs (top 44), defBody (top 44), defScope (top 44), [], []⟩
def h_d_law_scales : He.DefD := ⟨("_law_scales", none), "_law_scales", "_law_scales", defArgs (top 45), defBody (top 45), defScope (top 45), [], []⟩
def h_d_law_position : He.DefD := ⟨("_law_position", none), "_law_position", "_law_position", defArgs (top 46), defBody (top 46), defScope (top 46), [], []⟩
def h_d_law_spot : He.DefD := ⟨("_law_spot", none), "_law_spot", "_law_spot", defArgs (top 47), defBody (top 47), defScope (top 47), [], []⟩
def h_d_law : He.DefD := ⟨("law", none), "law", "law", defArgs (top 48), defBody (top 48), defScope (top 48), [], []⟩
def h_d_Rule : He.DefD := ⟨("Rule", some "__init__"), "__init__", "Rule.__init__", defArgs (mth 33 0), defBody (mth 33 0), defScope (mth 33 0), [], []⟩
def h_d_Rule_scale : He.DefD := ⟨("Rule", some "scale"), "scale", "Rule.scale", defArgs (mth 33 4), defBody (mth 33 4), defScope (mth 33 4), [], []⟩
def h_d_Rule_is_sliding : He.DefD := ⟨("Rule", some "is_sliding"), "is_sliding", "Rule.is_sliding", defArgs (mth 33 5), defBody (mth 33 5), defScope (mth 33 5), [], []⟩
def fn : List He.DefD := [h_d_wall, h_d_is_integer, h_d_common_divisor, h_d_is_fraction, h_d_is_mantissa, h_d_fraction, h_d_plus, h_d_minus, h_d_times, h_d_compare, h_d_floor_of, h_d_part_of, h_d_is_scale_name, h_d_is_scale, h_d_rule_word, h_d_place, h_d_figure, h_d_law_deck, h_d_law_take, h_d_law_frac, h_d_law_plus, h_d_law_minus, h_d_law_times, h_d_law_part, h_d_law_mantissa, h_d_law_scales, h_d_law_position, h_d_law_spot, h_d_law, h_d_Rule, h_d_Rule_scale, h_d_Rule_is_sliding]
def p_d_Rule_body : Pd := ⟨"Rule", "body", "Rule.body", defArgs (mth 33 2), defBody (mth 33 2), defScope (mth 33 2)⟩
def p_d_Rule_slide : Pd := ⟨"Rule", "slide", "Rule.slide", defArgs (mth 33 3), defBody (mth 33 3), defScope (mth 33 3)⟩
def pd : List Pd := [p_d_Rule_body, p_d_Rule_slide]
abbrev rowR : PySem.W.OpenRow := PySem.W.OpenLaw.row PySem.Challenge.rw_offscale_k14_places_and_figures
abbrev hk : PySem.W.Hook := hookC 6 fa fn cs ts pd
def ob (s : PySem.W.SharedT) : AlC := obsC 6 fa fn cs ts pd (HandSHeadRun.getT s)
theorem ob_eq (s : PySem.W.SharedT) : ob s = hk.obs s.abs := obsC_eq (HandSHeadRun.getT_eq s)
def loose : List Str := (["_wall", "MAX_TURNS", "MAX_SCALES", "SlideError", "NoFraction", "BadRule", "NoStretch", "NoMantissa", "NoPosition", "NoScale", "ZERO", "ONE", "is_integer", "common_divisor", "is_fraction", "is_mantissa", "fraction", "plus", "minus", "times", "compare", "floor_of", "part_of", "MAX_LETTERS", "CAPITALS", "COMMON_BODY", "COMMON_SLIDE", "is_scale_name", "is_scale", "rule_word"] : List Str) ++ (["Rule", "place", "figure", "_law_deck", "_law_take", "_law_frac", "_law_plus", "_law_minus", "_law_times", "_law_part", "_law_mantissa", "_law_scales", "_law_position", "_law_spot"] : List Str)
theorem run (w : World) : HandSHeadRun.RunEq rowR (PySem.W.view rowR.prog [48]) hk ob 8000 loose w := by
  intro os
  kernel_rfl
abbrev FX (K : PySem.W.Frag) (w : World) : Fx := ⟨K, fun c => He.ga K (Str.ofString c), w, fun c => c ∈ clsL⟩
theorem sc_d_wall : FnScope ["k"] ["k"] (defScope (top 0)) := ⟨rfl, rfl, rfl, by decide +kernel, rfl, by decide +kernel, by decide +kernel⟩
theorem ok_d_wall : okSs ⟨["k"], defScope (top 0), false, fs⟩ d_wall.body (defBody (top 0)) = true := by decide +kernel
theorem do_d_wall {K : PySem.W.Frag} {w : World} {mg : Str → Option Value} {h : Heap} (X : K.In h) (G : h.Ns mainGlobals mg) (c : SaysC fa fn cs ts pd w K) : DefOk (FX K w) mg fs "_wall" d_wall ["k"] ["k"] (defArgs (top 0)) (defBody (top 0)) (defScope (top 0)) := by
  refine ⟨?_, sc_d_wall, ok_d_wall, rfl, rfl, rfl⟩
  have g := He.glo_ok X G (x := "_wall") (c.d.fact 22 rfl)
  obtain ⟨fd, D⟩ := c.d.def_ 0 (d := h_d_wall) rfl
  refine ⟨_, fd, _, _, _, g, D, fun _ _ => .nil, fun j hj => ⟨[], ?_, D.bindsN fun _ _ _ _ _ _ us hl => match us, hl with | [_], _ => rfl⟩⟩
  have e : j = 0 := Nat.le_zero.mp hj
  subst e
  exact .nil
theorem sc_d_is_integer : FnScope ["value"] ["value"] (defScope (top 14)) := ⟨rfl, rfl, rfl, by decide +kernel, rfl, by decide +kernel, by decide +kernel⟩
theorem ok_d_is_integer : okSs ⟨["value"], defScope (top 14), false, fs⟩ d_is_integer.body (defBody (top 14)) = true := by decide +kernel
theorem do_d_is_integer {K : PySem.W.Frag} {w : World} {mg : Str → Option Value} {h : Heap} (X : K.In h) (G : h.Ns mainGlobals mg) (c : SaysC fa fn cs ts pd w K) : DefOk (FX K w) mg fs "is_integer" d_is_integer ["value"] ["value"] (defArgs (top 14)) (defBody (top 14)) (defScope (top 14)) := by
  refine ⟨?_, sc_d_is_integer, ok_d_is_integer, rfl, rfl, rfl⟩
  have g := He.glo_ok X G (x := "is_integer") (c.d.fact 23 rfl)
  obtain ⟨fd, D⟩ := c.d.def_ 1 (d := h_d_is_integer) rfl
  refine ⟨_, fd, _, _, _, g, D, fun _ _ => .nil, fun j hj => ⟨[], ?_, D.bindsN fun _ _ _ _ _ _ us hl => match us, hl with | [_], _ => rfl⟩⟩
  have e : j = 0 := Nat.le_zero.mp hj
  subst e
  exact .nil
theorem sc_d_common_divisor : FnScope ["one", "other"] ["one", "other"] (defScope (top 15)) := ⟨rfl, rfl, rfl, by decide +kernel, rfl, by decide +kernel, by decide +kernel⟩
theorem ok_d_common_divisor : okSs ⟨["one", "other"], defScope (top 15), false, fs⟩ d_common_divisor.body (defBody (top 15)) = true := by decide +kernel
theorem do_d_common_divisor {K : PySem.W.Frag} {w : World} {mg : Str → Option Value} {h : Heap} (X : K.In h) (G : h.Ns mainGlobals mg) (c : SaysC fa fn cs ts pd w K) : DefOk (FX K w) mg fs "common_divisor" d_common_divisor ["one", "other"] ["one", "other"] (defArgs (top 15)) (defBody (top 15)) (defScope (top 15)) := by
  refine ⟨?_, sc_d_common_divisor, ok_d_common_divisor, rfl, rfl, rfl⟩
  have g := He.glo_ok X G (x := "common_divisor") (c.d.fact 24 rfl)
  obtain ⟨fd, D⟩ := c.d.def_ 2 (d := h_d_common_divisor) rfl
  refine ⟨_, fd, _, _, _, g, D, fun _ _ => .nil, fun j hj => ⟨[], ?_, D.bindsN fun _ _ _ _ _ _ us hl => match us, hl with | [_, _], _ => rfl⟩⟩
  have e : j = 0 := Nat.le_zero.mp hj
  subst e
  exact .nil
theorem sc_d_is_fraction : FnScope ["value"] ["value"] (defScope (top 16)) := ⟨rfl, rfl, rfl, by decide +kernel, rfl, by decide +kernel, by decide +kernel⟩
theorem ok_d_is_fraction : okSs ⟨["value"], defScope (top 16), false, fs⟩ d_is_fraction.body (defBody (top 16)) = true := by decide +kernel
theorem do_d_is_fraction {K : PySem.W.Frag} {w : World} {mg : Str → Option Value} {h : Heap} (X : K.In h) (G : h.Ns mainGlobals mg) (c : SaysC fa fn cs ts pd w K) : DefOk (FX K w) mg fs "is_fraction" d_is_fraction ["value"] ["value"] (defArgs (top 16)) (defBody (top 16)) (defScope (top 16)) := by
  refine ⟨?_, sc_d_is_fraction, ok_d_is_fraction, rfl, rfl, rfl⟩
  have g := He.glo_ok X G (x := "is_fraction") (c.d.fact 25 rfl)
  obtain ⟨fd, D⟩ := c.d.def_ 3 (d := h_d_is_fraction) rfl
  refine ⟨_, fd, _, _, _, g, D, fun _ _ => .nil, fun j hj => ⟨[], ?_, D.bindsN fun _ _ _ _ _ _ us hl => match us, hl with | [_], _ => rfl⟩⟩
  have e : j = 0 := Nat.le_zero.mp hj
  subst e
  exact .nil
theorem sc_d_is_mantissa : FnScope ["value"] ["value"] (defScope (top 17)) := ⟨rfl, rfl, rfl, by decide +kernel, rfl, by decide +kernel, by decide +kernel⟩
theorem ok_d_is_mantissa : okSs ⟨["value"], defScope (top 17), false, fs⟩ d_is_mantissa.body (defBody (top 17)) = true := by decide +kernel
theorem do_d_is_mantissa {K : PySem.W.Frag} {w : World} {mg : Str → Option Value} {h : Heap} (X : K.In h) (G : h.Ns mainGlobals mg) (c : SaysC fa fn cs ts pd w K) : DefOk (FX K w) mg fs "is_mantissa" d_is_mantissa ["value"] ["value"] (defArgs (top 17)) (defBody (top 17)) (defScope (top 17)) := by
  refine ⟨?_, sc_d_is_mantissa, ok_d_is_mantissa, rfl, rfl, rfl⟩
  have g := He.glo_ok X G (x := "is_mantissa") (c.d.fact 26 rfl)
  obtain ⟨fd, D⟩ := c.d.def_ 4 (d := h_d_is_mantissa) rfl
  refine ⟨_, fd, _, _, _, g, D, fun _ _ => .nil, fun j hj => ⟨[], ?_, D.bindsN fun _ _ _ _ _ _ us hl => match us, hl with | [_], _ => rfl⟩⟩
  have e : j = 0 := Nat.le_zero.mp hj
  subst e
  exact .nil
theorem sc_d_fraction : FnScope ["top", "bottom", "divisor"] ["top", "bottom"] (defScope (top 18)) := ⟨rfl, rfl, rfl, by decide +kernel, rfl, by decide +kernel, by decide +kernel⟩
theorem ok_d_fraction : okSs ⟨["top", "bottom", "divisor"], defScope (top 18), false, fs⟩ d_fraction.body (defBody (top 18)) = true := by decide +kernel
theorem do_d_fraction {K : PySem.W.Frag} {w : World} {mg : Str → Option Value} {h : Heap} (X : K.In h) (G : h.Ns mainGlobals mg) (c : SaysC fa fn cs ts pd w K) : DefOk (FX K w) mg fs "fraction" d_fraction ["top", "bottom", "divisor"] ["top", "bottom"] (defArgs (top 18)) (defBody (top 18)) (defScope (top 18)) := by
  refine ⟨?_, sc_d_fraction, ok_d_fraction, rfl, rfl, rfl⟩
  have g := He.glo_ok X G (x := "fraction") (c.d.fact 27 rfl)
  obtain ⟨fd, D⟩ := c.d.def_ 5 (d := h_d_fraction) rfl
  refine ⟨_, fd, _, _, _, g, D, fun _ _ => .cons (.int _) (.nil), fun j hj => ?_⟩
  have e : j = 0 ∨ j = 1 := by
    have hj2 : j ≤ 1 := hj
    omega
  rcases e with rfl | rfl
  · exact D.binds1 1 0 (List.cons_ne_nil _ _) rfl fun _ _ _ _ _ _ _ us its h1 h2 => match us, its, h1, h2 with | [_], [_], _, _ => ⟨_, rfl, rfl⟩
  · exact D.binds1 2 1 (List.cons_ne_nil _ _) rfl fun _ _ _ _ _ _ _ us its h1 h2 => match us, its, h1, h2 with | [_, _], [_], _, _ => ⟨_, rfl, rfl⟩
theorem sc_d_plus : FnScope ["one", "other"] ["one", "other"] (defScope (top 19)) := ⟨rfl, rfl, rfl, by decide +kernel, rfl, by decide +kernel, by decide +kernel⟩
theorem ok_d_plus : okSs ⟨["one", "other"], defScope (top 19), false, fs⟩ d_plus.body (defBody (top 19)) = true := by decide +kernel
theorem do_d_plus {K : PySem.W.Frag} {w : World} {mg : Str → Option Value} {h : Heap} (X : K.In h) (G : h.Ns mainGlobals mg) (c : SaysC fa fn cs ts pd w K) : DefOk (FX K w) mg fs "plus" d_plus ["one", "other"] ["one", "other"] (defArgs (top 19)) (defBody (top 19)) (defScope (top 19)) := by
  refine ⟨?_, sc_d_plus, ok_d_plus, rfl, rfl, rfl⟩
  have g := He.glo_ok X G (x := "plus") (c.d.fact 28 rfl)
  obtain ⟨fd, D⟩ := c.d.def_ 6 (d := h_d_plus) rfl
  refine ⟨_, fd, _, _, _, g, D, fun _ _ => .nil, fun j hj => ⟨[], ?_, D.bindsN fun _ _ _ _ _ _ us hl => match us, hl with | [_, _], _ => rfl⟩⟩
  have e : j = 0 := Nat.le_zero.mp hj
  subst e
  exact .nil
theorem sc_d_minus : FnScope ["one", "other"] ["one", "other"] (defScope (top 20)) := ⟨rfl, rfl, rfl, by decide +kernel, rfl, by decide +kernel, by decide +kernel⟩
theorem ok_d_minus : okSs ⟨["one", "other"], defScope (top 20), false, fs⟩ d_minus.body (defBody (top 20)) = true := by decide +kernel
theorem do_d_minus {K : PySem.W.Frag} {w : World} {mg : Str → Option Value} {h : Heap} (X : K.In h) (G : h.Ns mainGlobals mg) (c : SaysC fa fn cs ts pd w K) : DefOk (FX K w) mg fs "minus" d_minus ["one", "other"] ["one", "other"] (defArgs (top 20)) (defBody (top 20)) (defScope (top 20)) := by
  refine ⟨?_, sc_d_minus, ok_d_minus, rfl, rfl, rfl⟩
  have g := He.glo_ok X G (x := "minus") (c.d.fact 29 rfl)
  obtain ⟨fd, D⟩ := c.d.def_ 7 (d := h_d_minus) rfl
  refine ⟨_, fd, _, _, _, g, D, fun _ _ => .nil, fun j hj => ⟨[], ?_, D.bindsN fun _ _ _ _ _ _ us hl => match us, hl with | [_, _], _ => rfl⟩⟩
  have e : j = 0 := Nat.le_zero.mp hj
  subst e
  exact .nil
theorem sc_d_times : FnScope ["one", "other"] ["one", "other"] (defScope (top 21)) := ⟨rfl, rfl, rfl, by decide +kernel, rfl, by decide +kernel, by decide +kernel⟩
theorem ok_d_times : okSs ⟨["one", "other"], defScope (top 21), false, fs⟩ d_times.body (defBody (top 21)) = true := by decide +kernel
theorem do_d_times {K : PySem.W.Frag} {w : World} {mg : Str → Option Value} {h : Heap} (X : K.In h) (G : h.Ns mainGlobals mg) (c : SaysC fa fn cs ts pd w K) : DefOk (FX K w) mg fs "times" d_times ["one", "other"] ["one", "other"] (defArgs (top 21)) (defBody (top 21)) (defScope (top 21)) := by
  refine ⟨?_, sc_d_times, ok_d_times, rfl, rfl, rfl⟩
  have g := He.glo_ok X G (x := "times") (c.d.fact 30 rfl)
  obtain ⟨fd, D⟩ := c.d.def_ 8 (d := h_d_times) rfl
  refine ⟨_, fd, _, _, _, g, D, fun _ _ => .nil, fun j hj => ⟨[], ?_, D.bindsN fun _ _ _ _ _ _ us hl => match us, hl with | [_, _], _ => rfl⟩⟩
  have e : j = 0 := Nat.le_zero.mp hj
  subst e
  exact .nil
theorem sc_d_compare : FnScope ["one", "other", "difference"] ["one", "other"] (defScope (top 22)) := ⟨rfl, rfl, rfl, by decide +kernel, rfl, by decide +kernel, by decide +kernel⟩
theorem ok_d_compare : okSs ⟨["one", "other", "difference"], defScope (top 22), false, fs⟩ d_compare.body (defBody (top 22)) = true := by decide +kernel
theorem do_d_compare {K : PySem.W.Frag} {w : World} {mg : Str → Option Value} {h : Heap} (X : K.In h) (G : h.Ns mainGlobals mg) (c : SaysC fa fn cs ts pd w K) : DefOk (FX K w) mg fs "compare" d_compare ["one", "other", "difference"] ["one", "other"] (defArgs (top 22)) (defBody (top 22)) (defScope (top 22)) := by
  refine ⟨?_, sc_d_compare, ok_d_compare, rfl, rfl, rfl⟩
  have g := He.glo_ok X G (x := "compare") (c.d.fact 31 rfl)
  obtain ⟨fd, D⟩ := c.d.def_ 9 (d := h_d_compare) rfl
  refine ⟨_, fd, _, _, _, g, D, fun _ _ => .nil, fun j hj => ⟨[], ?_, D.bindsN fun _ _ _ _ _ _ us hl => match us, hl with | [_, _], _ => rfl⟩⟩
  have e : j = 0 := Nat.le_zero.mp hj
  subst e
  exact .nil
theorem sc_d_floor_of : FnScope ["one"] ["one"] (defScope (top 23)) := ⟨rfl, rfl, rfl, by decide +kernel, rfl, by decide +kernel, by decide +kernel⟩
theorem ok_d_floor_of : okSs ⟨["one"], defScope (top 23), false, fs⟩ d_floor_of.body (defBody (top 23)) = true := by decide +kernel
theorem do_d_floor_of {K : PySem.W.Frag} {w : World} {mg : Str → Option Value} {h : Heap} (X : K.In h) (G : h.Ns mainGlobals mg) (c : SaysC fa fn cs ts pd w K) : DefOk (FX K w) mg fs "floor_of" d_floor_of ["one"] ["one"] (defArgs (top 23)) (defBody (top 23)) (defScope (top 23)) := by
  refine ⟨?_, sc_d_floor_of, ok_d_floor_of, rfl, rfl, rfl⟩
  have g := He.glo_ok X G (x := "floor_of") (c.d.fact 32 rfl)
  obtain ⟨fd, D⟩ := c.d.def_ 10 (d := h_d_floor_of) rfl
  refine ⟨_, fd, _, _, _, g, D, fun _ _ => .nil, fun j hj => ⟨[], ?_, D.bindsN fun _ _ _ _ _ _ us hl => match us, hl with | [_], _ => rfl⟩⟩
  have e : j = 0 := Nat.le_zero.mp hj
  subst e
  exact .nil
theorem sc_d_part_of : FnScope ["one"] ["one"] (defScope (top 24)) := ⟨rfl, rfl, rfl, by decide +kernel, rfl, by decide +kernel, by decide +kernel⟩
theorem ok_d_part_of : okSs ⟨["one"], defScope (top 24), false, fs⟩ d_part_of.body (defBody (top 24)) = true := by decide +kernel
theorem do_d_part_of {K : PySem.W.Frag} {w : World} {mg : Str → Option Value} {h : Heap} (X : K.In h) (G : h.Ns mainGlobals mg) (c : SaysC fa fn cs ts pd w K) : DefOk (FX K w) mg fs "part_of" d_part_of ["one"] ["one"] (defArgs (top 24)) (defBody (top 24)) (defScope (top 24)) := by
  refine ⟨?_, sc_d_part_of, ok_d_part_of, rfl, rfl, rfl⟩
  have g := He.glo_ok X G (x := "part_of") (c.d.fact 33 rfl)
  obtain ⟨fd, D⟩ := c.d.def_ 11 (d := h_d_part_of) rfl
  refine ⟨_, fd, _, _, _, g, D, fun _ _ => .nil, fun j hj => ⟨[], ?_, D.bindsN fun _ _ _ _ _ _ us hl => match us, hl with | [_], _ => rfl⟩⟩
  have e : j = 0 := Nat.le_zero.mp hj
  subst e
  exact .nil
theorem sc_d_is_scale_name : FnScope ["value", "letter"] ["value"] (defScope (top 30)) := ⟨rfl, rfl, rfl, by decide +kernel, rfl, by decide +kernel, by decide +kernel⟩
theorem ok_d_is_scale_name : okSs ⟨["value", "letter"], defScope (top 30), false, fs⟩ d_is_scale_name.body (defBody (top 30)) = true := by decide +kernel
theorem do_d_is_scale_name {K : PySem.W.Frag} {w : World} {mg : Str → Option Value} {h : Heap} (X : K.In h) (G : h.Ns mainGlobals mg) (c : SaysC fa fn cs ts pd w K) : DefOk (FX K w) mg fs "is_scale_name" d_is_scale_name ["value", "letter"] ["value"] (defArgs (top 30)) (defBody (top 30)) (defScope (top 30)) := by
  refine ⟨?_, sc_d_is_scale_name, ok_d_is_scale_name, rfl, rfl, rfl⟩
  have g := He.glo_ok X G (x := "is_scale_name") (c.d.fact 34 rfl)
  obtain ⟨fd, D⟩ := c.d.def_ 12 (d := h_d_is_scale_name) rfl
  refine ⟨_, fd, _, _, _, g, D, fun _ _ => .nil, fun j hj => ⟨[], ?_, D.bindsN fun _ _ _ _ _ _ us hl => match us, hl with | [_], _ => rfl⟩⟩
  have e : j = 0 := Nat.le_zero.mp hj
  subst e
  exact .nil
theorem sc_d_is_scale : FnScope ["value"] ["value"] (defScope (top 31)) := ⟨rfl, rfl, rfl, by decide +kernel, rfl, by decide +kernel, by decide +kernel⟩
theorem ok_d_is_scale : okSs ⟨["value"], defScope (top 31), false, fs⟩ d_is_scale.body (defBody (top 31)) = true := by decide +kernel
theorem do_d_is_scale {K : PySem.W.Frag} {w : World} {mg : Str → Option Value} {h : Heap} (X : K.In h) (G : h.Ns mainGlobals mg) (c : SaysC fa fn cs ts pd w K) : DefOk (FX K w) mg fs "is_scale" d_is_scale ["value"] ["value"] (defArgs (top 31)) (defBody (top 31)) (defScope (top 31)) := by
  refine ⟨?_, sc_d_is_scale, ok_d_is_scale, rfl, rfl, rfl⟩
  have g := He.glo_ok X G (x := "is_scale") (c.d.fact 35 rfl)
  obtain ⟨fd, D⟩ := c.d.def_ 13 (d := h_d_is_scale) rfl
  refine ⟨_, fd, _, _, _, g, D, fun _ _ => .nil, fun j hj => ⟨[], ?_, D.bindsN fun _ _ _ _ _ _ us hl => match us, hl with | [_], _ => rfl⟩⟩
  have e : j = 0 := Nat.le_zero.mp hj
  subst e
  exact .nil
theorem sc_d_rule_word : FnScope ["body", "slide", "some", "scale", "names"] ["body", "slide"] (defScope (top 32)) := ⟨rfl, rfl, rfl, by decide +kernel, rfl, by decide +kernel, by decide +kernel⟩
theorem ok_d_rule_word : okSs ⟨["body", "slide", "some", "scale", "names"], defScope (top 32), false, fs⟩ d_rule_word.body (defBody (top 32)) = true := by decide +kernel
theorem do_d_rule_word {K : PySem.W.Frag} {w : World} {mg : Str → Option Value} {h : Heap} (X : K.In h) (G : h.Ns mainGlobals mg) (c : SaysC fa fn cs ts pd w K) : DefOk (FX K w) mg fs "rule_word" d_rule_word ["body", "slide", "some", "scale", "names"] ["body", "slide"] (defArgs (top 32)) (defBody (top 32)) (defScope (top 32)) := by
  refine ⟨?_, sc_d_rule_word, ok_d_rule_word, rfl, rfl, rfl⟩
  have g := He.glo_ok X G (x := "rule_word") (c.d.fact 36 rfl)
  obtain ⟨fd, D⟩ := c.d.def_ 14 (d := h_d_rule_word) rfl
  refine ⟨_, fd, _, _, _, g, D, fun _ _ => .nil, fun j hj => ⟨[], ?_, D.bindsN fun _ _ _ _ _ _ us hl => match us, hl with | [_, _], _ => rfl⟩⟩
  have e : j = 0 := Nat.le_zero.mp hj
  subst e
  exact .nil
theorem sc_d_place : FnScope ["rule", "name", "stretch", "mantissa", "distance", "turns", "fold"] ["rule", "name", "stretch", "mantissa"] (defScope (top 34)) := ⟨rfl, rfl, rfl, by decide +kernel, rfl, by decide +kernel, by decide +kernel⟩
theorem ok_d_place : okSs ⟨["rule", "name", "stretch", "mantissa", "distance", "turns", "fold"], defScope (top 34), false, fs⟩ d_place.body (defBody (top 34)) = true := by decide +kernel
theorem do_d_place {K : PySem.W.Frag} {w : World} {mg : Str → Option Value} {h : Heap} (X : K.In h) (G : h.Ns mainGlobals mg) (c : SaysC fa fn cs ts pd w K) : DefOk (FX K w) mg fs "place" d_place ["rule", "name", "stretch", "mantissa", "distance", "turns", "fold"] ["rule", "name", "stretch", "mantissa"] (defArgs (top 34)) (defBody (top 34)) (defScope (top 34)) := by
  refine ⟨?_, sc_d_place, ok_d_place, rfl, rfl, rfl⟩
  have g := He.glo_ok X G (x := "place") (c.d.fact 37 rfl)
  obtain ⟨fd, D⟩ := c.d.def_ 15 (d := h_d_place) rfl
  refine ⟨_, fd, _, _, _, g, D, fun _ _ => .nil, fun j hj => ⟨[], ?_, D.bindsN fun _ _ _ _ _ _ us hl => match us, hl with | [_, _, _, _], _ => rfl⟩⟩
  have e : j = 0 := Nat.le_zero.mp hj
  subst e
  exact .nil
theorem sc_d_figure : FnScope ["rule", "name", "position", "value", "turns", "fold"] ["rule", "name", "position"] (defScope (top 35)) := ⟨rfl, rfl, rfl, by decide +kernel, rfl, by decide +kernel, by decide +kernel⟩
theorem ok_d_figure : okSs ⟨["rule", "name", "position", "value", "turns", "fold"], defScope (top 35), false, fs⟩ d_figure.body (defBody (top 35)) = true := by decide +kernel
theorem do_d_figure {K : PySem.W.Frag} {w : World} {mg : Str → Option Value} {h : Heap} (X : K.In h) (G : h.Ns mainGlobals mg) (c : SaysC fa fn cs ts pd w K) : DefOk (FX K w) mg fs "figure" d_figure ["rule", "name", "position", "value", "turns", "fold"] ["rule", "name", "position"] (defArgs (top 35)) (defBody (top 35)) (defScope (top 35)) := by
  refine ⟨?_, sc_d_figure, ok_d_figure, rfl, rfl, rfl⟩
  have g := He.glo_ok X G (x := "figure") (c.d.fact 38 rfl)
  obtain ⟨fd, D⟩ := c.d.def_ 16 (d := h_d_figure) rfl
  refine ⟨_, fd, _, _, _, g, D, fun _ _ => .nil, fun j hj => ⟨[], ?_, D.bindsN fun _ _ _ _ _ _ us hl => match us, hl with | [_, _, _], _ => rfl⟩⟩
  have e : j = 0 := Nat.le_zero.mp hj
  subst e
  exact .nil
theorem sc_d_law_deck : FnScope ["_law_script", "_law_cell", "_law_great", "_law_small"] ["_law_script"] (defScope (top 37)) := ⟨rfl, rfl, rfl, by decide +kernel, rfl, by decide +kernel, by decide +kernel⟩
theorem ok_d_law_deck : okSs ⟨["_law_script", "_law_cell", "_law_great", "_law_small"], defScope (top 37), false, fs⟩ d_law_deck.body (defBody (top 37)) = true := by decide +kernel
theorem do_d_law_deck {K : PySem.W.Frag} {w : World} {mg : Str → Option Value} {h : Heap} (X : K.In h) (G : h.Ns mainGlobals mg) (c : SaysC fa fn cs ts pd w K) : DefOk (FX K w) mg fs "_law_deck" d_law_deck ["_law_script", "_law_cell", "_law_great", "_law_small"] ["_law_script"] (defArgs (top 37)) (defBody (top 37)) (defScope (top 37)) := by
  refine ⟨?_, sc_d_law_deck, ok_d_law_deck, rfl, rfl, rfl⟩
  have g := He.glo_ok X G (x := "_law_deck") (c.d.fact 39 rfl)
  obtain ⟨fd, D⟩ := c.d.def_ 17 (d := h_d_law_deck) rfl
  refine ⟨_, fd, _, _, _, g, D, fun _ _ => .nil, fun j hj => ⟨[], ?_, D.bindsN fun _ _ _ _ _ _ us hl => match us, hl with | [_], _ => rfl⟩⟩
  have e : j = 0 := Nat.le_zero.mp hj
  subst e
  exact .nil
theorem sc_d_law_take : FnScope ["_law_deck_here", "_law_limit", "_law_mixed", "_law_digit"] ["_law_deck_here", "_law_limit"] (defScope (top 38)) := ⟨rfl, rfl, rfl, by decide +kernel, rfl, by decide +kernel, by decide +kernel⟩
theorem ok_d_law_take : okSs ⟨["_law_deck_here", "_law_limit", "_law_mixed", "_law_digit"], defScope (top 38), false, fs⟩ d_law_take.body (defBody (top 38)) = true := by decide +kernel
theorem do_d_law_take {K : PySem.W.Frag} {w : World} {mg : Str → Option Value} {h : Heap} (X : K.In h) (G : h.Ns mainGlobals mg) (c : SaysC fa fn cs ts pd w K) : DefOk (FX K w) mg fs "_law_take" d_law_take ["_law_deck_here", "_law_limit", "_law_mixed", "_law_digit"] ["_law_deck_here", "_law_limit"] (defArgs (top 38)) (defBody (top 38)) (defScope (top 38)) := by
  refine ⟨?_, sc_d_law_take, ok_d_law_take, rfl, rfl, rfl⟩
  have g := He.glo_ok X G (x := "_law_take") (c.d.fact 40 rfl)
  obtain ⟨fd, D⟩ := c.d.def_ 18 (d := h_d_law_take) rfl
  refine ⟨_, fd, _, _, _, g, D, fun _ _ => .nil, fun j hj => ⟨[], ?_, D.bindsN fun _ _ _ _ _ _ us hl => match us, hl with | [_, _], _ => rfl⟩⟩
  have e : j = 0 := Nat.le_zero.mp hj
  subst e
  exact .nil
theorem sc_d_law_frac : FnScope ["_law_top", "_law_bottom", "_law_sign", "_law_one", "_law_other"] ["_law_top", "_law_bottom"] (defScope (top 39)) := ⟨rfl, rfl, rfl, by decide +kernel, rfl, by decide +kernel, by decide +kernel⟩
theorem ok_d_law_frac : okSs ⟨["_law_top", "_law_bottom", "_law_sign", "_law_one", "_law_other"], defScope (top 39), false, fs⟩ d_law_frac.body (defBody (top 39)) = true := by decide +kernel
theorem do_d_law_frac {K : PySem.W.Frag} {w : World} {mg : Str → Option Value} {h : Heap} (X : K.In h) (G : h.Ns mainGlobals mg) (c : SaysC fa fn cs ts pd w K) : DefOk (FX K w) mg fs "_law_frac" d_law_frac ["_law_top", "_law_bottom", "_law_sign", "_law_one", "_law_other"] ["_law_top", "_law_bottom"] (defArgs (top 39)) (defBody (top 39)) (defScope (top 39)) := by
  refine ⟨?_, sc_d_law_frac, ok_d_law_frac, rfl, rfl, rfl⟩
  have g := He.glo_ok X G (x := "_law_frac") (c.d.fact 41 rfl)
  obtain ⟨fd, D⟩ := c.d.def_ 19 (d := h_d_law_frac) rfl
  refine ⟨_, fd, _, _, _, g, D, fun _ _ => .nil, fun j hj => ⟨[], ?_, D.bindsN fun _ _ _ _ _ _ us hl => match us, hl with | [_, _], _ => rfl⟩⟩
  have e : j = 0 := Nat.le_zero.mp hj
  subst e
  exact .nil
theorem sc_d_law_plus : FnScope ["_law_one", "_law_other"] ["_law_one", "_law_other"] (defScope (top 40)) := ⟨rfl, rfl, rfl, by decide +kernel, rfl, by decide +kernel, by decide +kernel⟩
theorem ok_d_law_plus : okSs ⟨["_law_one", "_law_other"], defScope (top 40), false, fs⟩ d_law_plus.body (defBody (top 40)) = true := by decide +kernel
theorem do_d_law_plus {K : PySem.W.Frag} {w : World} {mg : Str → Option Value} {h : Heap} (X : K.In h) (G : h.Ns mainGlobals mg) (c : SaysC fa fn cs ts pd w K) : DefOk (FX K w) mg fs "_law_plus" d_law_plus ["_law_one", "_law_other"] ["_law_one", "_law_other"] (defArgs (top 40)) (defBody (top 40)) (defScope (top 40)) := by
  refine ⟨?_, sc_d_law_plus, ok_d_law_plus, rfl, rfl, rfl⟩
  have g := He.glo_ok X G (x := "_law_plus") (c.d.fact 42 rfl)
  obtain ⟨fd, D⟩ := c.d.def_ 20 (d := h_d_law_plus) rfl
  refine ⟨_, fd, _, _, _, g, D, fun _ _ => .nil, fun j hj => ⟨[], ?_, D.bindsN fun _ _ _ _ _ _ us hl => match us, hl with | [_, _], _ => rfl⟩⟩
  have e : j = 0 := Nat.le_zero.mp hj
  subst e
  exact .nil
theorem sc_d_law_minus : FnScope ["_law_one", "_law_other"] ["_law_one", "_law_other"] (defScope (top 41)) := ⟨rfl, rfl, rfl, by decide +kernel, rfl, by decide +kernel, by decide +kernel⟩
theorem ok_d_law_minus : okSs ⟨["_law_one", "_law_other"], defScope (top 41), false, fs⟩ d_law_minus.body (defBody (top 41)) = true := by decide +kernel
theorem do_d_law_minus {K : PySem.W.Frag} {w : World} {mg : Str → Option Value} {h : Heap} (X : K.In h) (G : h.Ns mainGlobals mg) (c : SaysC fa fn cs ts pd w K) : DefOk (FX K w) mg fs "_law_minus" d_law_minus ["_law_one", "_law_other"] ["_law_one", "_law_other"] (defArgs (top 41)) (defBody (top 41)) (defScope (top 41)) := by
  refine ⟨?_, sc_d_law_minus, ok_d_law_minus, rfl, rfl, rfl⟩
  have g := He.glo_ok X G (x := "_law_minus") (c.d.fact 43 rfl)
  obtain ⟨fd, D⟩ := c.d.def_ 21 (d := h_d_law_minus) rfl
  refine ⟨_, fd, _, _, _, g, D, fun _ _ => .nil, fun j hj => ⟨[], ?_, D.bindsN fun _ _ _ _ _ _ us hl => match us, hl with | [_, _], _ => rfl⟩⟩
  have e : j = 0 := Nat.le_zero.mp hj
  subst e
  exact .nil
theorem sc_d_law_times : FnScope ["_law_one", "_law_other"] ["_law_one", "_law_other"] (defScope (top 42)) := ⟨rfl, rfl, rfl, by decide +kernel, rfl, by decide +kernel, by decide +kernel⟩
theorem ok_d_law_times : okSs ⟨["_law_one", "_law_other"], defScope (top 42), false, fs⟩ d_law_times.body (defBody (top 42)) = true := by decide +kernel
theorem do_d_law_times {K : PySem.W.Frag} {w : World} {mg : Str → Option Value} {h : Heap} (X : K.In h) (G : h.Ns mainGlobals mg) (c : SaysC fa fn cs ts pd w K) : DefOk (FX K w) mg fs "_law_times" d_law_times ["_law_one", "_law_other"] ["_law_one", "_law_other"] (defArgs (top 42)) (defBody (top 42)) (defScope (top 42)) := by
  refine ⟨?_, sc_d_law_times, ok_d_law_times, rfl, rfl, rfl⟩
  have g := He.glo_ok X G (x := "_law_times") (c.d.fact 44 rfl)
  obtain ⟨fd, D⟩ := c.d.def_ 22 (d := h_d_law_times) rfl
  refine ⟨_, fd, _, _, _, g, D, fun _ _ => .nil, fun j hj => ⟨[], ?_, D.bindsN fun _ _ _ _ _ _ us hl => match us, hl with | [_, _], _ => rfl⟩⟩
  have e : j = 0 := Nat.le_zero.mp hj
  subst e
  exact .nil
theorem sc_d_law_part : FnScope ["_law_one"] ["_law_one"] (defScope (top 43)) := ⟨rfl, rfl, rfl, by decide +kernel, rfl, by decide +kernel, by decide +kernel⟩
theorem ok_d_law_part : okSs ⟨["_law_one"], defScope (top 43), false, fs⟩ d_law_part.body (defBody (top 43)) = true := by decide +kernel
theorem do_d_law_part {K : PySem.W.Frag} {w : World} {mg : Str → Option Value} {h : Heap} (X : K.In h) (G : h.Ns mainGlobals mg) (c : SaysC fa fn cs ts pd w K) : DefOk (FX K w) mg fs "_law_part" d_law_part ["_law_one"] ["_law_one"] (defArgs (top 43)) (defBody (top 43)) (defScope (top 43)) := by
  refine ⟨?_, sc_d_law_part, ok_d_law_part, rfl, rfl, rfl⟩
  have g := He.glo_ok X G (x := "_law_part") (c.d.fact 45 rfl)
  obtain ⟨fd, D⟩ := c.d.def_ 23 (d := h_d_law_part) rfl
  refine ⟨_, fd, _, _, _, g, D, fun _ _ => .nil, fun j hj => ⟨[], ?_, D.bindsN fun _ _ _ _ _ _ us hl => match us, hl with | [_], _ => rfl⟩⟩
  have e : j = 0 := Nat.le_zero.mp hj
  subst e
  exact .nil
theorem sc_d_law_mantissa : FnScope ["_law_deck_here", "_law_bottom"] ["_law_deck_here"] (defScope (top 44)) := ⟨rfl, rfl, rfl, by decide +kernel, rfl, by decide +kernel, by decide +kernel⟩
theorem ok_d_law_mantissa : okSs ⟨["_law_deck_here", "_law_bottom"], defScope (top 44), false, fs⟩ d_law_mantissa.body (defBody (top 44)) = true := by decide +kernel
theorem do_d_law_mantissa {K : PySem.W.Frag} {w : World} {mg : Str → Option Value} {h : Heap} (X : K.In h) (G : h.Ns mainGlobals mg) (c : SaysC fa fn cs ts pd w K) : DefOk (FX K w) mg fs "_law_mantissa" d_law_mantissa ["_law_deck_here", "_law_bottom"] ["_law_deck_here"] (defArgs (top 44)) (defBody (top 44)) (defScope (top 44)) := by
  refine ⟨?_, sc_d_law_mantissa, ok_d_law_mantissa, rfl, rfl, rfl⟩
  have g := He.glo_ok X G (x := "_law_mantissa") (c.d.fact 46 rfl)
  obtain ⟨fd, D⟩ := c.d.def_ 24 (d := h_d_law_mantissa) rfl
  refine ⟨_, fd, _, _, _, g, D, fun _ _ => .nil, fun j hj => ⟨[], ?_, D.bindsN fun _ _ _ _ _ _ us hl => match us, hl with | [_], _ => rfl⟩⟩
  have e : j = 0 := Nat.le_zero.mp hj
  subst e
  exact .nil
theorem sc_d_law_scales : FnScope ["_law_deck_here", "_law_letters", "_law_first", "_law_found", "_law_k", "_law_cut", "_law_name", "_law_turns", "_law_fold"] ["_law_deck_here"] (defScope (top 45)) := ⟨rfl, rfl, rfl, by decide +kernel, rfl, by decide +kernel, by decide +kernel⟩
theorem ok_d_law_scales : okSs ⟨["_law_deck_here", "_law_letters", "_law_first", "_law_found", "_law_k", "_law_cut", "_law_name", "_law_turns", "_law_fold"], defScope (top 45), false, fs⟩ d_law_scales.body (defBody (top 45)) = true := by decide +kernel
theorem do_d_law_scales {K : PySem.W.Frag} {w : World} {mg : Str → Option Value} {h : Heap} (X : K.In h) (G : h.Ns mainGlobals mg) (c : SaysC fa fn cs ts pd w K) : DefOk (FX K w) mg fs "_law_scales" d_law_scales ["_law_deck_here", "_law_letters", "_law_first", "_law_found", "_law_k", "_law_cut", "_law_name", "_law_turns", "_law_fold"] ["_law_deck_here"] (defArgs (top 45)) (defBody (top 45)) (defScope (top 45)) := by
  refine ⟨?_, sc_d_law_scales, ok_d_law_scales, rfl, rfl, rfl⟩
  have g := He.glo_ok X G (x := "_law_scales") (c.d.fact 47 rfl)
  obtain ⟨fd, D⟩ := c.d.def_ 25 (d := h_d_law_scales) rfl
  refine ⟨_, fd, _, _, _, g, D, fun _ _ => .nil, fun j hj => ⟨[], ?_, D.bindsN fun _ _ _ _ _ _ us hl => match us, hl with | [_], _ => rfl⟩⟩
  have e : j = 0 := Nat.le_zero.mp hj
  subst e
  exact .nil
theorem sc_d_law_position : FnScope ["_law_turns", "_law_fold", "_law_stretch", "_law_mantissa_here", "_law_gap"] ["_law_turns", "_law_fold", "_law_stretch", "_law_mantissa_here"] (defScope (top 46)) := ⟨rfl, rfl, rfl, by decide +kernel, rfl, by decide +kernel, by decide +kernel⟩
theorem ok_d_law_position : okSs ⟨["_law_turns", "_law_fold", "_law_stretch", "_law_mantissa_here", "_law_gap"], defScope (top 46), false, fs⟩ d_law_position.body (defBody (top 46)) = true := by decide +kernel
theorem do_d_law_position {K : PySem.W.Frag} {w : World} {mg : Str → Option Value} {h : Heap} (X : K.In h) (G : h.Ns mainGlobals mg) (c : SaysC fa fn cs ts pd w K) : DefOk (FX K w) mg fs "_law_position" d_law_position ["_law_turns", "_law_fold", "_law_stretch", "_law_mantissa_here", "_law_gap"] ["_law_turns", "_law_fold", "_law_stretch", "_law_mantissa_here"] (defArgs (top 46)) (defBody (top 46)) (defScope (top 46)) := by
  refine ⟨?_, sc_d_law_position, ok_d_law_position, rfl, rfl, rfl⟩
  have g := He.glo_ok X G (x := "_law_position") (c.d.fact 48 rfl)
  obtain ⟨fd, D⟩ := c.d.def_ 26 (d := h_d_law_position) rfl
  refine ⟨_, fd, _, _, _, g, D, fun _ _ => .nil, fun j hj => ⟨[], ?_, D.bindsN fun _ _ _ _ _ _ us hl => match us, hl with | [_, _, _, _], _ => rfl⟩⟩
  have e : j = 0 := Nat.le_zero.mp hj
  subst e
  exact .nil
theorem sc_d_law_spot : FnScope ["_law_deck_here", "_law_some", "_law_kind", "_law_bottom"] ["_law_deck_here"] (defScope (top 47)) := ⟨rfl, rfl, rfl, by decide +kernel, rfl, by decide +kernel, by decide +kernel⟩
theorem ok_d_law_spot : okSs ⟨["_law_deck_here", "_law_some", "_law_kind", "_law_bottom"], defScope (top 47), false, fs⟩ d_law_spot.body (defBody (top 47)) = true := by decide +kernel
theorem do_d_law_spot {K : PySem.W.Frag} {w : World} {mg : Str → Option Value} {h : Heap} (X : K.In h) (G : h.Ns mainGlobals mg) (c : SaysC fa fn cs ts pd w K) : DefOk (FX K w) mg fs "_law_spot" d_law_spot ["_law_deck_here", "_law_some", "_law_kind", "_law_bottom"] ["_law_deck_here"] (defArgs (top 47)) (defBody (top 47)) (defScope (top 47)) := by
  refine ⟨?_, sc_d_law_spot, ok_d_law_spot, rfl, rfl, rfl⟩
  have g := He.glo_ok X G (x := "_law_spot") (c.d.fact 49 rfl)
  obtain ⟨fd, D⟩ := c.d.def_ 27 (d := h_d_law_spot) rfl
  refine ⟨_, fd, _, _, _, g, D, fun _ _ => .nil, fun j hj => ⟨[], ?_, D.bindsN fun _ _ _ _ _ _ us hl => match us, hl with | [_], _ => rfl⟩⟩
  have e : j = 0 := Nat.le_zero.mp hj
  subst e
  exact .nil
theorem sc_d_law : FnScope ["_law_script", "_law_deck_here", "_law_turn", "_law_rule", "_law_body", "_law_slide", "_law_name", "_law_turns", "_law_fold", "_law_mantissa_here", "_law_stretch", "_law_spot_here", "_law_value"] ["_law_script"] (defScope (top 48)) := ⟨rfl, rfl, rfl, by decide +kernel, rfl, by decide +kernel, by decide +kernel⟩
theorem ok_d_law : okSs ⟨["_law_script", "_law_deck_here", "_law_turn", "_law_rule", "_law_body", "_law_slide", "_law_name", "_law_turns", "_law_fold", "_law_mantissa_here", "_law_stretch", "_law_spot_here", "_law_value"], defScope (top 48), false, fs⟩ d_law.body (defBody (top 48)) = true := by decide +kernel
theorem do_d_law {K : PySem.W.Frag} {w : World} {mg : Str → Option Value} {h : Heap} (X : K.In h) (G : h.Ns mainGlobals mg) (c : SaysC fa fn cs ts pd w K) : DefOk (FX K w) mg fs "law" d_law ["_law_script", "_law_deck_here", "_law_turn", "_law_rule", "_law_body", "_law_slide", "_law_name", "_law_turns", "_law_fold", "_law_mantissa_here", "_law_stretch", "_law_spot_here", "_law_value"] ["_law_script"] (defArgs (top 48)) (defBody (top 48)) (defScope (top 48)) := by
  refine ⟨?_, sc_d_law, ok_d_law, rfl, rfl, rfl⟩
  have g := He.glo_ok X G (x := "law") (c.d.fact 50 rfl)
  obtain ⟨fd, D⟩ := c.d.def_ 28 (d := h_d_law) rfl
  refine ⟨_, fd, _, _, _, g, D, fun _ _ => .nil, fun j hj => ⟨[], ?_, D.bindsN fun _ _ _ _ _ _ us hl => match us, hl with | [_], _ => rfl⟩⟩
  have e : j = 0 := Nat.le_zero.mp hj
  subst e
  exact .nil
theorem sc_d_Rule : FnScope ["self", "body", "slide", "word"] ["self", "body", "slide"] (defScope (mth 33 0)) := ⟨rfl, rfl, rfl, by decide +kernel, rfl, by decide +kernel, by decide +kernel⟩
theorem ok_d_Rule : okSs ⟨["self", "body", "slide", "word"], defScope (mth 33 0), false, fs⟩ d_Rule.body (defBody (mth 33 0)) = true := by decide +kernel
theorem do_d_Rule {K : PySem.W.Frag} {w : World} {mg : Str → Option Value} {h : Heap} (X : K.In h) (G : h.Ns mainGlobals mg) (c : SaysC fa fn cs ts pd w K) : CtorOk (FX K w) mg fs "Rule" d_Rule ["self", "body", "slide", "word"] ["self", "body", "slide"] (defArgs (mth 33 0)) (defBody (mth 33 0)) (defScope (mth 33 0)) := by
  refine ⟨?_, sc_d_Rule, ok_d_Rule, rfl, rfl, rfl⟩
  have g : _ ∧ Mk K (He.ga K (Str.ofString "Rule")) _ ∧ "Rule" ∈ clsL := ⟨He.glo_ok X G (x := "Rule") (c.d.fact 51 rfl), He.mkr_ok (x := "Rule") (c.d.fact 52 rfl), by decide +kernel⟩
  obtain ⟨fd, D⟩ := c.d.def_ 29 (d := h_d_Rule) rfl
  refine ⟨_, fd, _, _, _, g, D, fun _ _ => .nil, fun j hj => ⟨[], ?_, D.bindsN fun _ _ _ _ _ _ us hl => match us, hl with | [_, _, _], _ => rfl⟩⟩
  have e : j = 0 := Nat.le_zero.mp hj
  subst e
  exact .nil
theorem sc_d_Rule_body : FnScope ["self"] ["self"] (defScope (mth 33 2)) := ⟨rfl, rfl, rfl, by decide +kernel, rfl, by decide +kernel, by decide +kernel⟩
theorem ok_d_Rule_body : okSs ⟨["self"], defScope (mth 33 2), false, fs⟩ d_Rule_body.body (defBody (mth 33 2)) = true := by decide +kernel
theorem do_d_Rule_body {K : PySem.W.Frag} {w : World} (c : SaysC fa fn cs ts pd w K) : MethOk (FX K w) fs "Rule" "body" d_Rule_body ["self"] ["self"] (defArgs (mth 33 2)) (defBody (mth 33 2)) (defScope (mth 33 2)) := by
  refine ⟨?_, sc_d_Rule_body, ok_d_Rule_body, rfl, rfl, rfl⟩
  obtain ⟨hp, fd, D⟩ := c.prop 0 (d := p_d_Rule_body) rfl
  have g : if isPrp "body" = true then ∃ p, PropOf K (He.ga K (Str.ofString "Rule")) (Str.ofString "body") p (pg K p_d_Rule_body) else Meth K (He.ga K (Str.ofString "Rule")) (Str.ofString "body") (pg K p_d_Rule_body) := by
    rw [if_pos (by decide +kernel)]
    exact ⟨_, hp⟩
  refine ⟨_, fd, _, _, _, g, D, fun _ _ => .nil, fun j hj => ⟨[], ?_, D.bindsN fun _ _ _ _ _ _ us hl => match us, hl with | [_], _ => rfl⟩⟩
  have e : j = 0 := Nat.le_zero.mp hj
  subst e
  exact .nil
theorem sc_d_Rule_slide : FnScope ["self"] ["self"] (defScope (mth 33 3)) := ⟨rfl, rfl, rfl, by decide +kernel, rfl, by decide +kernel, by decide +kernel⟩
theorem ok_d_Rule_slide : okSs ⟨["self"], defScope (mth 33 3), false, fs⟩ d_Rule_slide.body (defBody (mth 33 3)) = true := by decide +kernel
theorem do_d_Rule_slide {K : PySem.W.Frag} {w : World} (c : SaysC fa fn cs ts pd w K) : MethOk (FX K w) fs "Rule" "slide" d_Rule_slide ["self"] ["self"] (defArgs (mth 33 3)) (defBody (mth 33 3)) (defScope (mth 33 3)) := by
  refine ⟨?_, sc_d_Rule_slide, ok_d_Rule_slide, rfl, rfl, rfl⟩
  obtain ⟨hp, fd, D⟩ := c.prop 1 (d := p_d_Rule_slide) rfl
  have g : if isPrp "slide" = true then ∃ p, PropOf K (He.ga K (Str.ofString "Rule")) (Str.ofString "slide") p (pg K p_d_Rule_slide) else Meth K (He.ga K (Str.ofString "Rule")) (Str.ofString "slide") (pg K p_d_Rule_slide) := by
    rw [if_pos (by decide +kernel)]
    exact ⟨_, hp⟩
  refine ⟨_, fd, _, _, _, g, D, fun _ _ => .nil, fun j hj => ⟨[], ?_, D.bindsN fun _ _ _ _ _ _ us hl => match us, hl with | [_], _ => rfl⟩⟩
  have e : j = 0 := Nat.le_zero.mp hj
  subst e
  exact .nil
theorem sc_d_Rule_scale : FnScope ["self", "name", "own", "turns", "fold"] ["self", "name"] (defScope (mth 33 4)) := ⟨rfl, rfl, rfl, by decide +kernel, rfl, by decide +kernel, by decide +kernel⟩
theorem ok_d_Rule_scale : okSs ⟨["self", "name", "own", "turns", "fold"], defScope (mth 33 4), false, fs⟩ d_Rule_scale.body (defBody (mth 33 4)) = true := by decide +kernel
theorem do_d_Rule_scale {K : PySem.W.Frag} {w : World} (c : SaysC fa fn cs ts pd w K) : MethOk (FX K w) fs "Rule" "scale" d_Rule_scale ["self", "name", "own", "turns", "fold"] ["self", "name"] (defArgs (mth 33 4)) (defBody (mth 33 4)) (defScope (mth 33 4)) := by
  refine ⟨?_, sc_d_Rule_scale, ok_d_Rule_scale, rfl, rfl, rfl⟩
  have g : if isPrp "scale" = true then ∃ p, PropOf K (He.ga K (Str.ofString "Rule")) (Str.ofString "scale") p (He.fAd K ("Rule", some "scale")) else Meth K (He.ga K (Str.ofString "Rule")) (Str.ofString "scale") (He.fAd K ("Rule", some "scale")) := by
    rw [if_neg (by decide +kernel)]
    exact He.meth_ok (x := "Rule") (m := "scale") (c.d.fact 53 rfl)
  obtain ⟨fd, D⟩ := c.d.def_ 30 (d := h_d_Rule_scale) rfl
  refine ⟨_, fd, _, _, _, g, D, fun _ _ => .nil, fun j hj => ⟨[], ?_, D.bindsN fun _ _ _ _ _ _ us hl => match us, hl with | [_, _], _ => rfl⟩⟩
  have e : j = 0 := Nat.le_zero.mp hj
  subst e
  exact .nil
theorem sc_d_Rule_is_sliding : FnScope ["self", "name"] ["self", "name"] (defScope (mth 33 5)) := ⟨rfl, rfl, rfl, by decide +kernel, rfl, by decide +kernel, by decide +kernel⟩
theorem ok_d_Rule_is_sliding : okSs ⟨["self", "name"], defScope (mth 33 5), false, fs⟩ d_Rule_is_sliding.body (defBody (mth 33 5)) = true := by decide +kernel
theorem do_d_Rule_is_sliding {K : PySem.W.Frag} {w : World} (c : SaysC fa fn cs ts pd w K) : MethOk (FX K w) fs "Rule" "is_sliding" d_Rule_is_sliding ["self", "name"] ["self", "name"] (defArgs (mth 33 5)) (defBody (mth 33 5)) (defScope (mth 33 5)) := by
  refine ⟨?_, sc_d_Rule_is_sliding, ok_d_Rule_is_sliding, rfl, rfl, rfl⟩
  have g : if isPrp "is_sliding" = true then ∃ p, PropOf K (He.ga K (Str.ofString "Rule")) (Str.ofString "is_sliding") p (He.fAd K ("Rule", some "is_sliding")) else Meth K (He.ga K (Str.ofString "Rule")) (Str.ofString "is_sliding") (He.fAd K ("Rule", some "is_sliding")) := by
    rw [if_neg (by decide +kernel)]
    exact He.meth_ok (x := "Rule") (m := "is_sliding") (c.d.fact 54 rfl)
  obtain ⟨fd, D⟩ := c.d.def_ 31 (d := h_d_Rule_is_sliding) rfl
  refine ⟨_, fd, _, _, _, g, D, fun _ _ => .nil, fun j hj => ⟨[], ?_, D.bindsN fun _ _ _ _ _ _ us hl => match us, hl with | [_, _], _ => rfl⟩⟩
  have e : j = 0 := Nat.le_zero.mp hj
  subst e
  exact .nil
end LW

set_option Elab.async false
set_option linter.all false
set_option maxRecDepth 100000
set_option maxHeartbeats 2000000
set_option exponentiation.threshold 30000
set_option pp.maxSteps 600
set_option pp.deepTerms false
set_option pp.deepTerms.threshold 6
local macro_rules | `(tactic| walk_at "pv") => `(tactic| simp only [PV.e_var, PV.e_int, PV.e_str, PV.e_bl, PV.e_non, PV.e_glob, PV.e_tup, PV.e_lst, PV.e_lstM, PV.e_dic0, PV.e_bin, PV.e_neg, PV.e_not, PV.e_and, PV.e_or, PV.e_cmp, PV.e_chain, PV.e_isN, PV.e_notN, PV.e_ifx, PV.e_sub, PV.e_slice, PV.e_call, PV.e_bi, PV.e_isi, PV.e_comp, PV.es_nil, PV.es_cons, PV.o_no, PV.o_some, PV.t_val, PV.t_and, PV.t_or, PV.t_not, PV.t_cmp, PV.t_chain, PV.t_isN, PV.t_notN, PV.kCons_ok, PV.kCons_exc, PV.kCons1_ok, PV.kCons1_exc, PV.kTup_ok, PV.kTup_exc, PV.kLst_ok, PV.kLst_exc, PV.kLstM_ok, PV.kCall_ok, PV.kCall_exc, PV.kBin_ok, PV.kBin_exc, PV.kBin1_ok, PV.kBin1_exc, PV.kNeg_ok, PV.kNot_ok, PV.kNot_exc, PV.kAnd_ok, PV.kAnd_exc, PV.kOr_ok, PV.kOr_exc, PV.kCmp_ok, PV.kCmp_exc, PV.kCmp1_ok, PV.kCmp1_exc, PV.kCh_ok, PV.kCh1_ok, PV.kCh2_some, PV.kIf_ok, PV.kIf_exc, PV.kSub_ok, PV.kSub_exc, PV.kSub1_ok, PV.kSub1_exc, PV.kSl_ok, PV.kSl1_ok, PV.kSl2_ok, PV.kBi_ok, PV.kBi_exc, PV.kIsi_ok, PV.kTru_bl, PV.kTru_exc, PV.kTAnd_ok, PV.kTAnd_exc, PV.kTOr_ok, PV.kTOr_exc, PV.kTNot_ok, PV.kTNot_exc, PV.kTB_ok, PV.kTB_exc, PV.kInt_ok, PV.kIsN_non, PV.kNotN_non, PV.ofO_some, PV.ss_nil, PV.ss_cons, PV.s_expr, PV.s_set, PV.s_par, PV.s_asg, PV.s_putL, PV.s_ownNew, PV.s_ownApp, PV.s_freeze, PV.s_ret, PV.s_retN, PV.s_ite, PV.s_whl, PV.s_forN, PV.s_forR, PV.s_brk, PV.s_cont, PV.s_pass, PV.s_raise, PV.s_try, PV.sq_nx, PV.sq_rt, PV.sq_bk, PV.sq_ct, PV.sq_exc, PV.kExpr_ok, PV.kExpr_exc, PV.kSet_ok, PV.kSet_exc, PV.kPar_ok, PV.kPar_exc, PV.kPar1_ok, PV.kPar1_exc, PV.kAsg_ok, PV.kAsg_exc, PV.kPut_ok, PV.kPut1_ok, PV.kPut2_ok, PV.kOwn_ok, PV.kApp_ok, PV.kRet_ok, PV.kRet_exc, PV.kSIf_ok, PV.kSIf_exc, PV.kFor_tup, PV.kFor_lst, PV.kRun_nx, PV.kRun_rt, PV.kRun_exc, PV.kTry_ok, PV.kTry_exc, PV.nox_ok, PV.eq_ii, PV.eq_ss, PV.si0, PV.si1, PV.si2, PV.si3, PV.si4, PV.si5, PV.si6, PV.si7, PV.si8, PV.si9, PV.si10, PV.si11, PV.si12, PV.si13, PV.si14, PV.si15, PV.b_add, PV.b_sub, PV.c_lt, PV.c_le, PV.c_gt, PV.c_ge, PV.eq_ii, PV.eq_ss, PV.c_eq, PV.c_ne, PV.k_abs, PV.k_int, PV.k_intB, PV.k_lenT, PV.k_lenL, PV.k_lenS, PV.x_tup, PV.x_lst, PV.gi0, PV.si0, PV.gi1, PV.si1, PV.gi2, PV.si2, PV.gi3, PV.si3, PV.gi4, PV.si4, PV.gi5, PV.si5, PV.gi6, PV.si6, PV.gi7, PV.si7, PV.gi8, PV.si8, PV.gi9, PV.si9, PV.gi10, PV.si10, PV.gi11, PV.si11, PV.gi12, PV.si12, PV.gi13, PV.si13, PV.gi14, PV.si14, PV.gi15, PV.si15, PV.ri0, PV.ri1, PV.ri2, PV.ri3, PV.ri4, PV.ri5, PV.ri6, PV.ri7, PV.ri8, PV.ri9, PV.ri10, PV.ri11, PV.ai0, PV.ai1, PV.ai2, PV.ai3, PV.ai4, PV.ai5, PV.ai6, PV.ai7, PV.ai8, PV.ai9, List.map_cons, List.map_nil, List.cons_append, List.nil_append, List.append_nil, Option.map_some, PV.R.bind_ok, Bool.not_true, Bool.not_false, if_true, if_false, Bool.false_eq_true, decide_true, decide_false, Nat.reduceSub, PV.bindT, PV.bindTs, List.length_cons, List.length_nil, PySem.sizeLine_eq, Nat.reduceAdd, Nat.reduceLeDiff, Nat.zero_add, decide_eq_true_eq, PV.x_obj0, PV.put0, PV.put1, PV.put2, PV.ic0, PV.ic1, PV.ic2, PV.ic3, PV.ic4, PV.ic5, PV.ic6, PV.ic7, PV.ic8, PV.ic9, PV.ic10, PV.ic11, PV.ic12, PV.ic13, PV.ic14, PV.ic15, PV.ic16, PV.ic17, PV.ic18, PV.ic19, PV.ic20, PV.ic21, PV.ic22, PV.ic23, Int.reduceEq, Int.reduceLT, Int.reduceLE, Int.reduceNeg, PV.vB_var, PV.vB_int, PV.vB_str, PV.vB_bl, PV.vB_non, PV.vB_glob, PV.vB_tup, PV.vB_lst, PV.vB_dic0, PV.vB_bin, PV.vB_neg, PV.vB_not, PV.vB_and, PV.vB_or, PV.vB_cmp, PV.vB_chain, PV.vB_isN, PV.vB_notN, PV.vB_ifx, PV.vB_sub, PV.vB_slice, PV.vB_call, PV.vB_bi, PV.vB_isi, PV.vB_comp, PV.vB_fmt, PV.vB_fstr, PV.vB_join, PV.vB_own, PV.rs_int, PV.rs_str, PV.rs_bl, PV.rs_non, PV.rs_tup, PV.rs_lst, PV.rs_dic, PV.rs_scr, PV.kFmt_ok, PV.kJoin_ok, PV.kJ_ok, PV.kListM_ok, PV.e_listM, PV.e_fmt, PV.e_fstr, PV.e_join, PV.j_nil, PV.j_cons, PV.kCmpC_ok, PV.kCmpC_exc, PV.s_ownAdd, PV.s_appL, PV.kOAdd_ok, PV.kOAdd1_ok, PV.addF_ok, PV.sw_line_slide, PV.sw_line_read, PV.sw_line_try, PV.sw_line_left, PV.sw_line_right, PV.sw_slide_line, PV.sw_slide_read, PV.sw_slide_try, PV.sw_slide_left, PV.sw_slide_right, PV.sw_read_line, PV.sw_read_slide, PV.sw_read_try, PV.sw_read_left, PV.sw_read_right, PV.sw_try_line, PV.sw_try_slide, PV.sw_try_read, PV.sw_try_left, PV.sw_try_right, PV.sw_left_line, PV.sw_left_slide, PV.sw_left_read, PV.sw_left_try, PV.sw_left_right, PV.sw_right_line, PV.sw_right_slide, PV.sw_right_read, PV.sw_right_try, PV.sw_right_left, PV.it_lst, PV.it_tup, PV.kAppL_obj, PV.kAppL1_ok, PV.appF_ok, PV.e_compI, PV.cstep_ap, PV.cst1_some, PV.kCC_ok, PV.kSome_ok, PV.c_no, PV.c_some, PV.kCompI_ok, PV.kCompE_ok, PV.e_sset, PV.e_lset, PV.e_allL, PV.i_seq, PV.i_rng, PV.i_rng2, PV.i_enum, PV.i_zip, PV.kSeq_tup, PV.kSeq_lst, PV.kSeq_str, PV.kSeq_exc, PV.kRng2_ok, PV.kEnum_lst, PV.kZip_ok, PV.kZip1_lst, PV.vB_compI, PV.vB_sset, PV.vB_lset, PV.vB_allL, PV.rs_cdic, PV.s_forI, PV.s_ownExt, PV.kForI_ok, PV.kForI_exc, PV.lstep_ap, PV.lst1_some, PV.kExt_lst, PV.c_in, PV.c_nin, PV.s_aug, PV.kAug_ok, PV.au_add, PV.au_sub, PV.is_non_int, PV.is_non_bool, PV.is_non_str, PV.is_non_tuple, PV.is_non_list, PV.is_non_dict, PV.is_bl_int, PV.is_bl_bool, PV.is_bl_str, PV.is_bl_tuple, PV.is_bl_list, PV.is_bl_dict, PV.is_int_int, PV.is_int_bool, PV.is_int_str, PV.is_int_tuple, PV.is_int_list, PV.is_int_dict, PV.is_str_int, PV.is_str_bool, PV.is_str_str, PV.is_str_tuple, PV.is_str_list, PV.is_str_dict, PV.is_tup_int, PV.is_tup_bool, PV.is_tup_str, PV.is_tup_tuple, PV.is_tup_list, PV.is_tup_dict, PV.is_lst_int, PV.is_lst_bool, PV.is_lst_str, PV.is_lst_tuple, PV.is_lst_list, PV.is_lst_dict, PV.is_dic_int, PV.is_dic_bool, PV.is_dic_str, PV.is_dic_tuple, PV.is_dic_list, PV.is_dic_dict, PV.e_fld, PV.e_prop, PV.e_mcall, PV.kFld_ok, PV.kPrp_ok, PV.kPrp1_some, PV.kMth_ok, PV.kMth1_some, PV.kMth2_ok, PV.rnox_ok, PV.vB_fld, PV.vB_prop, PV.vB_mcall, PV.s_setF, PV.kSetF_ok, PV.putD_nil, PV.s_forT, PV.setFF_0, PV.setFF_1, PV.setFF_2, PV.setFF_3])
local macro_rules | `(tactic| walk_at "p") => `(tactic| try simp only [PV.e_var, PV.e_int, PV.e_str, PV.e_bl, PV.e_non, PV.e_glob, PV.e_tup, PV.e_lst, PV.e_lstM, PV.e_dic0, PV.e_bin, PV.e_neg, PV.e_not, PV.e_and, PV.e_or, PV.e_cmp, PV.e_chain, PV.e_isN, PV.e_notN, PV.e_ifx, PV.e_sub, PV.e_slice, PV.e_call, PV.e_bi, PV.e_isi, PV.e_comp, PV.es_nil, PV.es_cons, PV.o_no, PV.o_some, PV.t_val, PV.t_and, PV.t_or, PV.t_not, PV.t_cmp, PV.t_chain, PV.t_isN, PV.t_notN, PV.kCons_ok, PV.kCons_exc, PV.kCons1_ok, PV.kCons1_exc, PV.kTup_ok, PV.kTup_exc, PV.kLst_ok, PV.kLst_exc, PV.kLstM_ok, PV.kCall_ok, PV.kCall_exc, PV.kBin_ok, PV.kBin_exc, PV.kBin1_ok, PV.kBin1_exc, PV.kNeg_ok, PV.kNot_ok, PV.kNot_exc, PV.kAnd_ok, PV.kAnd_exc, PV.kOr_ok, PV.kOr_exc, PV.kCmp_ok, PV.kCmp_exc, PV.kCmp1_ok, PV.kCmp1_exc, PV.kCh_ok, PV.kCh1_ok, PV.kCh2_some, PV.kIf_ok, PV.kIf_exc, PV.kSub_ok, PV.kSub_exc, PV.kSub1_ok, PV.kSub1_exc, PV.kSl_ok, PV.kSl1_ok, PV.kSl2_ok, PV.kBi_ok, PV.kBi_exc, PV.kIsi_ok, PV.kTru_bl, PV.kTru_exc, PV.kTAnd_ok, PV.kTAnd_exc, PV.kTOr_ok, PV.kTOr_exc, PV.kTNot_ok, PV.kTNot_exc, PV.kTB_ok, PV.kTB_exc, PV.kInt_ok, PV.kIsN_non, PV.kNotN_non, PV.ofO_some, PV.ss_nil, PV.ss_cons, PV.s_expr, PV.s_set, PV.s_par, PV.s_asg, PV.s_putL, PV.s_ownNew, PV.s_ownApp, PV.s_freeze, PV.s_ret, PV.s_retN, PV.s_ite, PV.s_whl, PV.s_forN, PV.s_forR, PV.s_brk, PV.s_cont, PV.s_pass, PV.s_raise, PV.s_try, PV.sq_nx, PV.sq_rt, PV.sq_bk, PV.sq_ct, PV.sq_exc, PV.kExpr_ok, PV.kExpr_exc, PV.kSet_ok, PV.kSet_exc, PV.kPar_ok, PV.kPar_exc, PV.kPar1_ok, PV.kPar1_exc, PV.kAsg_ok, PV.kAsg_exc, PV.kPut_ok, PV.kPut1_ok, PV.kPut2_ok, PV.kOwn_ok, PV.kApp_ok, PV.kRet_ok, PV.kRet_exc, PV.kSIf_ok, PV.kSIf_exc, PV.kFor_tup, PV.kFor_lst, PV.kRun_nx, PV.kRun_rt, PV.kRun_exc, PV.kTry_ok, PV.kTry_exc, PV.nox_ok, PV.eq_ii, PV.eq_ss, PV.si0, PV.si1, PV.si2, PV.si3, PV.si4, PV.si5, PV.si6, PV.si7, PV.si8, PV.si9, PV.si10, PV.si11, PV.si12, PV.si13, PV.si14, PV.si15, PV.b_add, PV.b_sub, PV.c_lt, PV.c_le, PV.c_gt, PV.c_ge, PV.eq_ii, PV.eq_ss, PV.c_eq, PV.c_ne, PV.k_abs, PV.k_int, PV.k_intB, PV.k_lenT, PV.k_lenL, PV.k_lenS, PV.x_tup, PV.x_lst, PV.gi0, PV.si0, PV.gi1, PV.si1, PV.gi2, PV.si2, PV.gi3, PV.si3, PV.gi4, PV.si4, PV.gi5, PV.si5, PV.gi6, PV.si6, PV.gi7, PV.si7, PV.gi8, PV.si8, PV.gi9, PV.si9, PV.gi10, PV.si10, PV.gi11, PV.si11, PV.gi12, PV.si12, PV.gi13, PV.si13, PV.gi14, PV.si14, PV.gi15, PV.si15, PV.ri0, PV.ri1, PV.ri2, PV.ri3, PV.ri4, PV.ri5, PV.ri6, PV.ri7, PV.ri8, PV.ri9, PV.ri10, PV.ri11, PV.ai0, PV.ai1, PV.ai2, PV.ai3, PV.ai4, PV.ai5, PV.ai6, PV.ai7, PV.ai8, PV.ai9, List.map_cons, List.map_nil, List.cons_append, List.nil_append, List.append_nil, Option.map_some, PV.R.bind_ok, Bool.not_true, Bool.not_false, if_true, if_false, Bool.false_eq_true, decide_true, decide_false, Nat.reduceSub, PV.bindT, PV.bindTs, List.length_cons, List.length_nil, PySem.sizeLine_eq, Nat.reduceAdd, Nat.reduceLeDiff, Nat.zero_add, decide_eq_true_eq, PV.x_obj0, PV.put0, PV.put1, PV.put2, PV.ic0, PV.ic1, PV.ic2, PV.ic3, PV.ic4, PV.ic5, PV.ic6, PV.ic7, PV.ic8, PV.ic9, PV.ic10, PV.ic11, PV.ic12, PV.ic13, PV.ic14, PV.ic15, PV.ic16, PV.ic17, PV.ic18, PV.ic19, PV.ic20, PV.ic21, PV.ic22, PV.ic23, Int.reduceEq, Int.reduceLT, Int.reduceLE, Int.reduceNeg, PV.vB_var, PV.vB_int, PV.vB_str, PV.vB_bl, PV.vB_non, PV.vB_glob, PV.vB_tup, PV.vB_lst, PV.vB_dic0, PV.vB_bin, PV.vB_neg, PV.vB_not, PV.vB_and, PV.vB_or, PV.vB_cmp, PV.vB_chain, PV.vB_isN, PV.vB_notN, PV.vB_ifx, PV.vB_sub, PV.vB_slice, PV.vB_call, PV.vB_bi, PV.vB_isi, PV.vB_comp, PV.vB_fmt, PV.vB_fstr, PV.vB_join, PV.vB_own, PV.rs_int, PV.rs_str, PV.rs_bl, PV.rs_non, PV.rs_tup, PV.rs_lst, PV.rs_dic, PV.rs_scr, PV.kFmt_ok, PV.kJoin_ok, PV.kJ_ok, PV.kListM_ok, PV.e_listM, PV.e_fmt, PV.e_fstr, PV.e_join, PV.j_nil, PV.j_cons, PV.kCmpC_ok, PV.kCmpC_exc, PV.s_ownAdd, PV.s_appL, PV.kOAdd_ok, PV.kOAdd1_ok, PV.addF_ok, PV.sw_line_slide, PV.sw_line_read, PV.sw_line_try, PV.sw_line_left, PV.sw_line_right, PV.sw_slide_line, PV.sw_slide_read, PV.sw_slide_try, PV.sw_slide_left, PV.sw_slide_right, PV.sw_read_line, PV.sw_read_slide, PV.sw_read_try, PV.sw_read_left, PV.sw_read_right, PV.sw_try_line, PV.sw_try_slide, PV.sw_try_read, PV.sw_try_left, PV.sw_try_right, PV.sw_left_line, PV.sw_left_slide, PV.sw_left_read, PV.sw_left_try, PV.sw_left_right, PV.sw_right_line, PV.sw_right_slide, PV.sw_right_read, PV.sw_right_try, PV.sw_right_left, PV.it_lst, PV.it_tup, PV.kAppL_obj, PV.kAppL1_ok, PV.appF_ok, PV.e_compI, PV.cstep_ap, PV.cst1_some, PV.kCC_ok, PV.kSome_ok, PV.c_no, PV.c_some, PV.kCompI_ok, PV.kCompE_ok, PV.e_sset, PV.e_lset, PV.e_allL, PV.i_seq, PV.i_rng, PV.i_rng2, PV.i_enum, PV.i_zip, PV.kSeq_tup, PV.kSeq_lst, PV.kSeq_str, PV.kSeq_exc, PV.kRng2_ok, PV.kEnum_lst, PV.kZip_ok, PV.kZip1_lst, PV.vB_compI, PV.vB_sset, PV.vB_lset, PV.vB_allL, PV.rs_cdic, PV.s_forI, PV.s_ownExt, PV.kForI_ok, PV.kForI_exc, PV.lstep_ap, PV.lst1_some, PV.kExt_lst, PV.c_in, PV.c_nin, PV.s_aug, PV.kAug_ok, PV.au_add, PV.au_sub, PV.is_non_int, PV.is_non_bool, PV.is_non_str, PV.is_non_tuple, PV.is_non_list, PV.is_non_dict, PV.is_bl_int, PV.is_bl_bool, PV.is_bl_str, PV.is_bl_tuple, PV.is_bl_list, PV.is_bl_dict, PV.is_int_int, PV.is_int_bool, PV.is_int_str, PV.is_int_tuple, PV.is_int_list, PV.is_int_dict, PV.is_str_int, PV.is_str_bool, PV.is_str_str, PV.is_str_tuple, PV.is_str_list, PV.is_str_dict, PV.is_tup_int, PV.is_tup_bool, PV.is_tup_str, PV.is_tup_tuple, PV.is_tup_list, PV.is_tup_dict, PV.is_lst_int, PV.is_lst_bool, PV.is_lst_str, PV.is_lst_tuple, PV.is_lst_list, PV.is_lst_dict, PV.is_dic_int, PV.is_dic_bool, PV.is_dic_str, PV.is_dic_tuple, PV.is_dic_list, PV.is_dic_dict, PV.e_fld, PV.e_prop, PV.e_mcall, PV.kFld_ok, PV.kPrp_ok, PV.kPrp1_some, PV.kMth_ok, PV.kMth1_some, PV.kMth2_ok, PV.rnox_ok, PV.vB_fld, PV.vB_prop, PV.vB_mcall, PV.s_setF, PV.kSetF_ok, PV.putD_nil, PV.s_forT, PV.setFF_0, PV.setFF_1, PV.setFF_2, PV.setFF_3])
local macro_rules | `(tactic| walk_at "pvh") => `(tactic| simp only [PV.e_var, PV.e_int, PV.e_str, PV.e_bl, PV.e_non, PV.e_glob, PV.e_tup, PV.e_lst, PV.e_lstM, PV.e_dic0, PV.e_bin, PV.e_neg, PV.e_not, PV.e_and, PV.e_or, PV.e_cmp, PV.e_chain, PV.e_isN, PV.e_notN, PV.e_ifx, PV.e_sub, PV.e_slice, PV.e_call, PV.e_bi, PV.e_isi, PV.e_comp, PV.es_nil, PV.es_cons, PV.o_no, PV.o_some, PV.t_val, PV.t_and, PV.t_or, PV.t_not, PV.t_cmp, PV.t_chain, PV.t_isN, PV.t_notN, PV.kCons_ok, PV.kCons_exc, PV.kCons1_ok, PV.kCons1_exc, PV.kTup_ok, PV.kTup_exc, PV.kLst_ok, PV.kLst_exc, PV.kLstM_ok, PV.kCall_ok, PV.kCall_exc, PV.kBin_ok, PV.kBin_exc, PV.kBin1_ok, PV.kBin1_exc, PV.kNeg_ok, PV.kNot_ok, PV.kNot_exc, PV.kAnd_ok, PV.kAnd_exc, PV.kOr_ok, PV.kOr_exc, PV.kCmp_ok, PV.kCmp_exc, PV.kCmp1_ok, PV.kCmp1_exc, PV.kCh_ok, PV.kCh1_ok, PV.kCh2_some, PV.kIf_ok, PV.kIf_exc, PV.kSub_ok, PV.kSub_exc, PV.kSub1_ok, PV.kSub1_exc, PV.kSl_ok, PV.kSl1_ok, PV.kSl2_ok, PV.kBi_ok, PV.kBi_exc, PV.kIsi_ok, PV.kTru_bl, PV.kTru_exc, PV.kTAnd_ok, PV.kTAnd_exc, PV.kTOr_ok, PV.kTOr_exc, PV.kTNot_ok, PV.kTNot_exc, PV.kTB_ok, PV.kTB_exc, PV.kInt_ok, PV.kIsN_non, PV.kNotN_non, PV.ofO_some, PV.ss_nil, PV.ss_cons, PV.s_expr, PV.s_set, PV.s_par, PV.s_asg, PV.s_putL, PV.s_ownNew, PV.s_ownApp, PV.s_freeze, PV.s_ret, PV.s_retN, PV.s_ite, PV.s_whl, PV.s_forN, PV.s_forR, PV.s_brk, PV.s_cont, PV.s_pass, PV.s_raise, PV.s_try, PV.sq_nx, PV.sq_rt, PV.sq_bk, PV.sq_ct, PV.sq_exc, PV.kExpr_ok, PV.kExpr_exc, PV.kSet_ok, PV.kSet_exc, PV.kPar_ok, PV.kPar_exc, PV.kPar1_ok, PV.kPar1_exc, PV.kAsg_ok, PV.kAsg_exc, PV.kPut_ok, PV.kPut1_ok, PV.kPut2_ok, PV.kOwn_ok, PV.kApp_ok, PV.kRet_ok, PV.kRet_exc, PV.kSIf_ok, PV.kSIf_exc, PV.kFor_tup, PV.kFor_lst, PV.kRun_nx, PV.kRun_rt, PV.kRun_exc, PV.kTry_ok, PV.kTry_exc, PV.nox_ok, PV.eq_ii, PV.eq_ss, PV.si0, PV.si1, PV.si2, PV.si3, PV.si4, PV.si5, PV.si6, PV.si7, PV.si8, PV.si9, PV.si10, PV.si11, PV.si12, PV.si13, PV.si14, PV.si15, PV.b_add, PV.b_sub, PV.c_lt, PV.c_le, PV.c_gt, PV.c_ge, PV.eq_ii, PV.eq_ss, PV.c_eq, PV.c_ne, PV.k_abs, PV.k_int, PV.k_intB, PV.k_lenT, PV.k_lenL, PV.k_lenS, PV.x_tup, PV.x_lst, PV.gi0, PV.si0, PV.gi1, PV.si1, PV.gi2, PV.si2, PV.gi3, PV.si3, PV.gi4, PV.si4, PV.gi5, PV.si5, PV.gi6, PV.si6, PV.gi7, PV.si7, PV.gi8, PV.si8, PV.gi9, PV.si9, PV.gi10, PV.si10, PV.gi11, PV.si11, PV.gi12, PV.si12, PV.gi13, PV.si13, PV.gi14, PV.si14, PV.gi15, PV.si15, PV.ri0, PV.ri1, PV.ri2, PV.ri3, PV.ri4, PV.ri5, PV.ri6, PV.ri7, PV.ri8, PV.ri9, PV.ri10, PV.ri11, PV.ai0, PV.ai1, PV.ai2, PV.ai3, PV.ai4, PV.ai5, PV.ai6, PV.ai7, PV.ai8, PV.ai9, List.map_cons, List.map_nil, List.cons_append, List.nil_append, List.append_nil, Option.map_some, PV.R.bind_ok, Bool.not_true, Bool.not_false, if_true, if_false, Bool.false_eq_true, decide_true, decide_false, Nat.reduceSub, PV.bindT, PV.bindTs, List.length_cons, List.length_nil, PySem.sizeLine_eq, Nat.reduceAdd, Nat.reduceLeDiff, Nat.zero_add, decide_eq_true_eq, PV.x_obj0, PV.put0, PV.put1, PV.put2, PV.ic0, PV.ic1, PV.ic2, PV.ic3, PV.ic4, PV.ic5, PV.ic6, PV.ic7, PV.ic8, PV.ic9, PV.ic10, PV.ic11, PV.ic12, PV.ic13, PV.ic14, PV.ic15, PV.ic16, PV.ic17, PV.ic18, PV.ic19, PV.ic20, PV.ic21, PV.ic22, PV.ic23, Int.reduceEq, Int.reduceLT, Int.reduceLE, Int.reduceNeg, PV.vB_var, PV.vB_int, PV.vB_str, PV.vB_bl, PV.vB_non, PV.vB_glob, PV.vB_tup, PV.vB_lst, PV.vB_dic0, PV.vB_bin, PV.vB_neg, PV.vB_not, PV.vB_and, PV.vB_or, PV.vB_cmp, PV.vB_chain, PV.vB_isN, PV.vB_notN, PV.vB_ifx, PV.vB_sub, PV.vB_slice, PV.vB_call, PV.vB_bi, PV.vB_isi, PV.vB_comp, PV.vB_fmt, PV.vB_fstr, PV.vB_join, PV.vB_own, PV.rs_int, PV.rs_str, PV.rs_bl, PV.rs_non, PV.rs_tup, PV.rs_lst, PV.rs_dic, PV.rs_scr, PV.kFmt_ok, PV.kJoin_ok, PV.kJ_ok, PV.kListM_ok, PV.e_listM, PV.e_fmt, PV.e_fstr, PV.e_join, PV.j_nil, PV.j_cons, PV.kCmpC_ok, PV.kCmpC_exc, PV.s_ownAdd, PV.s_appL, PV.kOAdd_ok, PV.kOAdd1_ok, PV.addF_ok, PV.sw_line_slide, PV.sw_line_read, PV.sw_line_try, PV.sw_line_left, PV.sw_line_right, PV.sw_slide_line, PV.sw_slide_read, PV.sw_slide_try, PV.sw_slide_left, PV.sw_slide_right, PV.sw_read_line, PV.sw_read_slide, PV.sw_read_try, PV.sw_read_left, PV.sw_read_right, PV.sw_try_line, PV.sw_try_slide, PV.sw_try_read, PV.sw_try_left, PV.sw_try_right, PV.sw_left_line, PV.sw_left_slide, PV.sw_left_read, PV.sw_left_try, PV.sw_left_right, PV.sw_right_line, PV.sw_right_slide, PV.sw_right_read, PV.sw_right_try, PV.sw_right_left, PV.it_lst, PV.it_tup, PV.kAppL_obj, PV.kAppL1_ok, PV.appF_ok, PV.e_compI, PV.cstep_ap, PV.cst1_some, PV.kCC_ok, PV.kSome_ok, PV.c_no, PV.c_some, PV.kCompI_ok, PV.kCompE_ok, PV.e_sset, PV.e_lset, PV.e_allL, PV.i_seq, PV.i_rng, PV.i_rng2, PV.i_enum, PV.i_zip, PV.kSeq_tup, PV.kSeq_lst, PV.kSeq_str, PV.kSeq_exc, PV.kRng2_ok, PV.kEnum_lst, PV.kZip_ok, PV.kZip1_lst, PV.vB_compI, PV.vB_sset, PV.vB_lset, PV.vB_allL, PV.rs_cdic, PV.s_forI, PV.s_ownExt, PV.kForI_ok, PV.kForI_exc, PV.lstep_ap, PV.lst1_some, PV.kExt_lst, PV.c_in, PV.c_nin, PV.s_aug, PV.kAug_ok, PV.au_add, PV.au_sub, PV.is_non_int, PV.is_non_bool, PV.is_non_str, PV.is_non_tuple, PV.is_non_list, PV.is_non_dict, PV.is_bl_int, PV.is_bl_bool, PV.is_bl_str, PV.is_bl_tuple, PV.is_bl_list, PV.is_bl_dict, PV.is_int_int, PV.is_int_bool, PV.is_int_str, PV.is_int_tuple, PV.is_int_list, PV.is_int_dict, PV.is_str_int, PV.is_str_bool, PV.is_str_str, PV.is_str_tuple, PV.is_str_list, PV.is_str_dict, PV.is_tup_int, PV.is_tup_bool, PV.is_tup_str, PV.is_tup_tuple, PV.is_tup_list, PV.is_tup_dict, PV.is_lst_int, PV.is_lst_bool, PV.is_lst_str, PV.is_lst_tuple, PV.is_lst_list, PV.is_lst_dict, PV.is_dic_int, PV.is_dic_bool, PV.is_dic_str, PV.is_dic_tuple, PV.is_dic_list, PV.is_dic_dict, PV.e_fld, PV.e_prop, PV.e_mcall, PV.kFld_ok, PV.kPrp_ok, PV.kPrp1_some, PV.kMth_ok, PV.kMth1_some, PV.kMth2_ok, PV.rnox_ok, PV.vB_fld, PV.vB_prop, PV.vB_mcall, PV.s_setF, PV.kSetF_ok, PV.putD_nil, PV.s_forT, PV.setFF_0, PV.setFF_1, PV.setFF_2, PV.setFF_3, *])

namespace LW
open PySem PySem.Spec PyProof.Rows L2 PV
theorem ru : RuT cn tbl := ⟨⟨rfl, rfl, rfl⟩, rfl, rfl, rfl, rfl, rfl, ⟨"MAX_LETTERS", "CAPITALS", rfl, rfl, rfl⟩, rfl, rfl, rfl, rfl, rfl, rfl, rfl, rfl⟩
theorem pt : PlT cn tbl := ⟨ru, rfl, rfl, rfl, rfl, rfl, rfl, rfl⟩
theorem lp : LpT tbl := ⟨rfl, rfl, rfl, rfl, rfl⟩
theorem repr_fig {i : Int} {p : Int × Int} (hi : i.natAbs < 2 ^ 1900) (ha : p.1.natAbs < 2 ^ 1900) (hb : p.2.natAbs < 2 ^ 1900) (s : S) : ∃ z, biD s .repr (.tup [.int i, pP p]) = some (.str z) := by
  refine ⟨_, k_repr (p := .tuple [.int i, .tuple [.int p.1, .int p.2]]) rfl ?_ (by simp only [PyData.depth, PyData.depthAll]; decide) (by simp only [nod, nods]; decide)⟩
  simp only [lf, lfs, decide_eq_true hi, decide_eq_true ha, decide_eq_true hb, Bool.and_self]
theorem law_ok (ns : List Int) (hn : ns.length ≤ 63) : ∃ st', callN cn tbl 40 "law" [.scr ns] [] = .ok (.bl true) st' := by
  suffices h : W (callN cn tbl 40 "law" [.scr ns] []) fun d _ => d = .bl true by
    obtain ⟨d, s, e, rfl⟩ := h
    exact ⟨s, e⟩
  obtain ⟨st0, h0, dk0⟩ := deck_ok (C := cn) (t := tbl) rfl 38 hn
  have tk : tbl "_law_take" = some d_law_take := rfl
  have tf : tbl "_law_frac" = some d_law_frac := rfl
  have tm : tbl "_law_mantissa" = some d_law_mantissa := rfl
  refine W_run (show tbl "law" = some d_law from rfl) rfl ?_
  simp only [d_law]
  walk_at "p"
  rw [h0]
  walk_at "p"
  refine B_forR (by decide) (fun i env st => ∃ (rest : S) (s2 s3 s4 s5 s6 s7 s8 s9 s10 s11 s12 : Sl), env = [.val (.scr ns), .val (.obj 0), s2, s3, s4, s5, s6, s7, s8, s9, s10, s11, s12] ∧ Deck rest st) ⟨[], _, _, _, _, _, _, _, _, _, _, _, rfl, dk0⟩ ?_ ?_ (by decide)
  · rintro i env st hi ⟨rest, s2, s3, s4, s5, s6, s7, s8, s9, s10, s11, s12, rfl, dk⟩
    obtain ⟨r, st1, h1, hr, dk1⟩ := scales_ok (C := cn) (t := tbl) tk tf tm rfl 36 dk
    have hl := hr.len
    have q1 := rule_ok ru 33 st1 hr
    have e2 : binD .add (.tup (r.b.map scD)) (.tup (r.s.map scD)) = some (.tup ((r.b ++ r.s).map scD)) := by
      rw [List.map_append]
      exact b_addT (by rw [List.length_map, List.length_map, sizeLine_eq]; omega)
    simp only [d_law_b2]
    walk_at "p"
    rw [h1]
    simp only [rlD]
    walk_at "p"
    rw [q1]
    walk_at "p"
    rw [e2]
    walk_at "p"
    refine B_for (fun xs env st => (∀ x ∈ xs, ∃ q ∈ r.b ++ r.s, x = scD q) ∧ ∃ (s6 s7 s8 s9 s10 s11 s12 : Sl), env = [.val (.scr ns), .val (.obj 0), .val (.int i), .val (ruD r), .val (.tup (r.b.map scD)), .val (.tup (r.s.map scD)), s6, s7, s8, s9, s10, s11, s12] ∧ Deck rest st) ⟨?_, _, _, _, _, _, _, _, rfl, dk1⟩ ?_ ?_
    · intro x hx
      obtain ⟨q, hq, e⟩ := List.mem_map.mp hx
      exact ⟨q, hq, e.symm⟩
    · rintro x xs env st ⟨hx, s6, s7, s8, s9, s10, s11, s12, rfl, dk⟩
      obtain ⟨q, hq, rfl⟩ := hx x List.mem_cons_self
      obtain ⟨c, hc, oc⟩ := hr.okc q hq
      obtain ⟨f1, f2⟩ := abs3 oc
      obtain ⟨u, st2, h2, a2, b2, dk2⟩ := take_ok (C := cn) (t := tbl) tk 38 (l := 4) (by decide) (by decide) dk
      simp only [d_law_b1, scD]
      walk_at "p"
      rw [h2]
      walk_at "p"
      have key : ∃ m st3, (if u = 0 then R.ok (pP q.f) st2 else callN cn tbl 39 "_law_mantissa" [.obj 0] st2) = .ok (pP m) st3 ∧ Mant m ∧ Deck rest st3 := by
        by_cases hu : u = 0
        · exact ⟨q.f, st2, if_pos hu, oc.f, dk2⟩
        · obtain ⟨m, st3, h3, hm, dk3⟩ := mantissa_ok (C := cn) (t := tbl) tk tf tm 37 dk2
          exact ⟨m, st3, (if_neg hu).trans h3, hm, dk3⟩
      obtain ⟨m, st3, h3, hm, dk3⟩ := key
      rw [h3]
      walk_at "p"
      obtain ⟨k, st4, h4, a4, b4, dk4⟩ := take_ok (C := cn) (t := tbl) tk 38 (l := (q.t.natAbs : Int)) f1 (pow_up (j := 64) (by omega) (by decide)) dk3
      obtain ⟨g1, g2, g3⟩ := plF_up oc hm a4 b4
      rw [h4]
      walk_at "p"
      rw [place_ok pt 35 st4 hr hq a4 b4 hm]
      walk_at "p"
      rw [repr_pP (pow_up g2 (by decide)) (pow_up g3 (by decide))]
      walk_at "p"
      rw [position_ok lp rfl 36 st4 oc a4 b4 hm]
      walk_at "p"
      rw [repr_pP (pow_up g2 (by decide)) (pow_up g3 (by decide))]
      walk_at "p"
      obtain ⟨p, st5, h5, hp, dk5⟩ := spot_ok (C := cn) (t := tbl) tk tf rfl 37 dk4
      obtain ⟨m1, m2, m3, m4, m5⟩ := fiF_up oc hp
      obtain ⟨e1, e2'⟩ := ptF_up m3
      rw [h5]
      walk_at "p"
      rw [pk1, law_times_ok (C := cn) (t := tbl) rfl rfl 37 (p := p) (q := (q.t, 1)) hp.pos (pow_up hp.up.2 (by decide)) ⟨show (0 : Int) < 1 by decide, by show q.t.natAbs < _; omega, show (1 : Int).natAbs < _ by decide⟩ st5]
      walk_at "p"
      rw [law_plus_ok (C := cn) (t := tbl) rfl rfl 37 (p := muF p (q.t, 1)) (q := q.f) m1 (pow_up m2 (by decide)) oc.f.gd st5]
      walk_at "p"
      rw [figure_okP pt 35 st5 hr hq hp]
      walk_at "p"
      have fl : ((fiF q p).1 / (fiF q p).2).natAbs < 2 ^ 1900 := by
        have := Int.natAbs_ediv_le_natAbs (fiF q p).1 (fiF q p).2
        exact Nat.lt_of_le_of_lt this (pow_up m4 (by decide))
      have pb : (ptF (fiF q p)).1.natAbs < 2 ^ 1900 := Nat.lt_of_le_of_lt (by omega : _ ≤ (fiF q p).2.natAbs) (pow_up m5 (by decide))
      obtain ⟨z, ez⟩ := repr_fig (p := ptF (fiF q p)) fl pb (pow_up m5 (by decide)) st5
      rw [ez]
      walk_at "p"
      have fd : binD .fdiv (.int (fiF q p).1) (.int (fiF q p).2) = some (.int ((fiF q p).1 / (fiF q p).2)) := b_fdiv m3 (Nat.lt_trans (big_lt (by decide) (pow_up m5 (show 90 ≤ 8000 by decide))) (by decide))
      rw [show adF (muF p (q.t, 1)) q.f = fiF q p from rfl, show pP (fiF q p) = D.tup [.int (fiF q p).1, .int (fiF q p).2] from rfl]
      walk_at "p"
      rw [fd]
      walk_at "p"
      rw [show D.tup [.int (fiF q p).1, .int (fiF q p).2] = pP (fiF q p) from rfl, law_part_ok (C := cn) (t := tbl) rfl 38 m3 st5]
      walk_at "p"
      rw [ptP, ez]
      walk_at "p"
      exact B.nx ⟨fun x hx' => hx x (List.mem_cons_of_mem _ hx'), _, _, _, _, _, _, _, rfl, dk5⟩
    · rintro env st ⟨_, s6, s7, s8, s9, s10, s11, s12, rfl, dk⟩
      walk_at "p"
      exact B.nx ⟨_, _, _, _, _, _, _, _, _, _, _, _, rfl, dk⟩
  · rintro env st ⟨rest, s2, s3, s4, s5, s6, s7, s8, s9, s10, s11, s12, rfl, dk⟩
    walk_at "p"
    exact B.rt rfl
end LW

set_option Elab.async false
set_option linter.all false
set_option maxRecDepth 100000
set_option maxHeartbeats 0
set_option exponentiation.threshold 30000
namespace LW
open PySem PySem.Spec PyProof.Rows L2 PV
theorem md_ok {K : PySem.W.Frag} {mg : Str → Option Value} {h : Heap} {w : World} (X : K.In h) (G : h.Ns mainGlobals mg) (sc : SaysC fa fn cs ts pd w K) : Md (FX K w) cn mg w := by
  have c := sc.d
  refine ⟨rfl, fun x d z => con_ok (F := FX K w) X G sc z, ?_, ?_, ?_, fun c hc => ⟨clsF_cls sc.d hc, fun f hf => clsF_no sc.d hc hf⟩⟩
  · intro x hx
    simp only [bNames, List.mem_cons, List.not_mem_nil, or_false] at hx
    rcases hx with rfl | rfl | rfl | rfl | rfl | rfl | rfl | rfl | rfl | rfl | rfl | rfl | rfl | rfl | rfl | rfl | rfl | rfl | rfl
    · exact He.free_ok X G (c.fact 0 rfl)
    · exact He.free_ok X G (c.fact 1 rfl)
    · exact He.free_ok X G (c.fact 2 rfl)
    · exact He.free_ok X G (c.fact 3 rfl)
    · exact He.free_ok X G (c.fact 4 rfl)
    · exact He.free_ok X G (c.fact 5 rfl)
    · exact He.free_ok X G (c.fact 6 rfl)
    · exact He.free_ok X G (c.fact 7 rfl)
    · exact He.free_ok X G (c.fact 8 rfl)
    · exact He.free_ok X G (c.fact 9 rfl)
    · exact He.free_ok X G (c.fact 10 rfl)
    · exact He.free_ok X G (c.fact 11 rfl)
    · exact He.free_ok X G (c.fact 12 rfl)
    · exact He.free_ok X G (c.fact 13 rfl)
    · exact He.free_ok X G (c.fact 14 rfl)
    · exact He.free_ok X G (c.fact 15 rfl)
    · exact He.free_ok X G (c.fact 16 rfl)
    · exact He.free_ok X G (c.fact 17 rfl)
    · exact He.free_ok X G (c.fact 18 rfl)
  · intro x hx
    simp only [cn] at hx
    split at hx
    · obtain ⟨h1, h2, h3, h4⟩ := He.exc_ok (c.fact 19 (f := .exc "NoFraction") rfl)
      exact ⟨_, _, _, _, PySem.F.excBase_ValueError, h1, He.glo_ok X G (x := "NoFraction") (c.fact 21 rfl), h2, h3, h4⟩
    · cases hx
  · intro x y b hx
    simp only [cn] at hx
    split at hx
    · cases hx
      exact ⟨He.glo_ok X G (x := "NoFraction") (c.fact 21 rfl), He.exm_ok (c.fact 20 (f := .exm "NoFraction" "NoFraction" true) rfl)⟩
    · cases hx
theorem tab_ok {K : PySem.W.Frag} {w : World} {mg : Str → Option Value} {h : Heap} (X : K.In h) (G : h.Ns mainGlobals mg) (c : SaysC fa fn cs ts pd w K) : TabF (FX K w) cn tbl mg fs := by
  intro f hf
  have hf := List.contains_iff_mem.mp hf
  simp only [fs, List.mem_cons, List.not_mem_nil, or_false] at hf
  rcases hf with rfl | rfl | rfl | rfl | rfl | rfl | rfl | rfl | rfl | rfl | rfl | rfl | rfl | rfl | rfl | rfl | rfl | rfl | rfl | rfl | rfl | rfl | rfl | rfl | rfl | rfl | rfl | rfl | rfl | rfl
  · exact ⟨_, _, _, _, _, _, .inl ⟨rfl, .inl (do_d_wall X G c)⟩⟩
  · exact ⟨_, _, _, _, _, _, .inl ⟨rfl, .inl (do_d_is_integer X G c)⟩⟩
  · exact ⟨_, _, _, _, _, _, .inl ⟨rfl, .inl (do_d_common_divisor X G c)⟩⟩
  · exact ⟨_, _, _, _, _, _, .inl ⟨rfl, .inl (do_d_is_fraction X G c)⟩⟩
  · exact ⟨_, _, _, _, _, _, .inl ⟨rfl, .inl (do_d_is_mantissa X G c)⟩⟩
  · exact ⟨_, _, _, _, _, _, .inl ⟨rfl, .inl (do_d_fraction X G c)⟩⟩
  · exact ⟨_, _, _, _, _, _, .inl ⟨rfl, .inl (do_d_plus X G c)⟩⟩
  · exact ⟨_, _, _, _, _, _, .inl ⟨rfl, .inl (do_d_minus X G c)⟩⟩
  · exact ⟨_, _, _, _, _, _, .inl ⟨rfl, .inl (do_d_times X G c)⟩⟩
  · exact ⟨_, _, _, _, _, _, .inl ⟨rfl, .inl (do_d_compare X G c)⟩⟩
  · exact ⟨_, _, _, _, _, _, .inl ⟨rfl, .inl (do_d_floor_of X G c)⟩⟩
  · exact ⟨_, _, _, _, _, _, .inl ⟨rfl, .inl (do_d_part_of X G c)⟩⟩
  · exact ⟨_, _, _, _, _, _, .inl ⟨rfl, .inl (do_d_is_scale_name X G c)⟩⟩
  · exact ⟨_, _, _, _, _, _, .inl ⟨rfl, .inl (do_d_is_scale X G c)⟩⟩
  · exact ⟨_, _, _, _, _, _, .inl ⟨rfl, .inl (do_d_rule_word X G c)⟩⟩
  · exact ⟨_, _, _, _, _, _, .inl ⟨rfl, .inl (do_d_place X G c)⟩⟩
  · exact ⟨_, _, _, _, _, _, .inl ⟨rfl, .inl (do_d_figure X G c)⟩⟩
  · exact ⟨_, _, _, _, _, _, .inl ⟨rfl, .inl (do_d_law_deck X G c)⟩⟩
  · exact ⟨_, _, _, _, _, _, .inl ⟨rfl, .inl (do_d_law_take X G c)⟩⟩
  · exact ⟨_, _, _, _, _, _, .inl ⟨rfl, .inl (do_d_law_frac X G c)⟩⟩
  · exact ⟨_, _, _, _, _, _, .inl ⟨rfl, .inl (do_d_law_plus X G c)⟩⟩
  · exact ⟨_, _, _, _, _, _, .inl ⟨rfl, .inl (do_d_law_minus X G c)⟩⟩
  · exact ⟨_, _, _, _, _, _, .inl ⟨rfl, .inl (do_d_law_times X G c)⟩⟩
  · exact ⟨_, _, _, _, _, _, .inl ⟨rfl, .inl (do_d_law_part X G c)⟩⟩
  · exact ⟨_, _, _, _, _, _, .inl ⟨rfl, .inl (do_d_law_mantissa X G c)⟩⟩
  · exact ⟨_, _, _, _, _, _, .inl ⟨rfl, .inl (do_d_law_scales X G c)⟩⟩
  · exact ⟨_, _, _, _, _, _, .inl ⟨rfl, .inl (do_d_law_position X G c)⟩⟩
  · exact ⟨_, _, _, _, _, _, .inl ⟨rfl, .inl (do_d_law_spot X G c)⟩⟩
  · exact ⟨_, _, _, _, _, _, .inl ⟨rfl, .inl (do_d_law X G c)⟩⟩
  · exact ⟨_, _, _, _, _, _, .inr ⟨rfl, rfl, do_d_Rule X G c⟩⟩
theorem tabm_ok {K : PySem.W.Frag} {w : World} (c : SaysC fa fn cs ts pd w K) : TabM (FX K w) cn tbl fs := by
  intro x m q hq
  simp only [cn] at hq
  split at hq
  · cases hq
    exact ⟨_, _, _, _, _, _, rfl, do_d_Rule_body c⟩
  · cases hq
    exact ⟨_, _, _, _, _, _, rfl, do_d_Rule_slide c⟩
  · cases hq
    exact ⟨_, _, _, _, _, _, rfl, do_d_Rule_scale c⟩
  · cases hq
    exact ⟨_, _, _, _, _, _, rfl, do_d_Rule_is_sliding c⟩
  · cases hq
end LW
open PySem PySem.W PySem.Calls PyProof.Rows
theorem PySem.Challenge.cw_offscale_k14_places_and_figures_holds : PySem.Challenge.rw_offscale_k14_places_and_figures.Holds := by
  w_on; o_law
  refine HandSHeadRun.head_any (r := LW.rowR) (q := view LW.rowR.prog [48]) (H := LW.hk) (ob := LW.ob) (M := 8000) (loose := LW.loose) (d := HandSHeadRun.topDef LW.rowR.prog 48) (kwd := []) LW.ob_eq
    (by kernel_rfl) (fun s => by kernel_rfl) LW.run (by kernel_rfl) (by kernel_rfl) (by kernel_rfl) (by rfl) (by first | assumption | decide +kernel) (by decide +kernel) ⟨rfl, rfl, rfl, rfl, rfl, by decide +kernel⟩ ?hw ?hc
  case hw => w_witness2
  case hc =>
    refine PV.law_end (l := PySem.Challenge.rw_offscale_k14_places_and_figures) (n := 63) (lv := 2 * 40) rfl (by decide) (by kernel_rfl) (by kernel_rfl) ⟨rfl, by decide, by decide⟩ ?fx
    intro w mg h Y G
    obtain ⟨K, KX, c⟩ := Y
    exact ⟨LW.FX K w, _, KX, fun base => PV.fns_ok (F := LW.FX K w) (fs := LW.fs) (LW.md_ok KX G c) (LW.tab_ok KX G c) (LW.tabm_ok c) 40 "law" (by decide +kernel), fun ns hl => LW.law_ok ns hl⟩

