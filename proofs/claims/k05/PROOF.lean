import PyProof.Rows.All
import Wide.All
import OpenK.AllK
import Wide.FinOn
import HandS.Base
import HandS.Call
import HandS.List
import HandS.Comp
import HandS.Dict
import HandS.Iter
import HandS.Text
import HandS.Words
import HandS.Exc
import HandS.ExcOwn
import HandS.Codes
import HandS.IsInst
import HandS.Wide
import HandS.TupAny
import HandS.TupMul
import HandS.Style
import HandS.Conv
import HandS.Property
import KE.KOpsOwn
import PyProof.ReprRoads
import HandS.EndBits
import HandS.TryOnly
import HandS.Defaults
import HandS.HeadHook2
import HandS.ClsMeth
import HandS.ExcIs
import HandS.SetFor
import PyProof.Rows.StrTemp
import PyProof.NeKinds
import PyProof.P3Eq
import HandS.SortInts
import HandS.SortRule
import PyProof.Rows.StrRules
import KE.KDictSum
import HandS.ExcValue
import KE.KDictPairs
import HandS.Strs
import HandS.ExcInit
import HandS.ExcField
import KE.KCallOwn
import HandS.SetTxt0
import PyProof.StrLawsRepr
import PyProof.Rows.RegStrFacts
import PySem.Challenge.RW_fewmodes_k05_scripts_refused
set_option Elab.async false
set_option linter.all false
set_option maxRecDepth 100000
/-! The value layer: deep values, where they stand in the abstract heap, steps of that heap. -/
namespace DL
open PySem L2

/-- a value as it is thought of: no addresses but those of the objects with a name of their own (obj) -/
inductive D where
  | non
  | bl (b : Bool)
  | int (i : Int)
  | str (x : String)
  | tup (ds : List D)
  | lst (ds : List D)
  | frl (ds : List D)
  | ftp (ds : List D)
  | dk (kvs : List (D × D))
  | dt (kvs : List (D × D))
  | ins (c : Nat) (fs : List (String × D))
  | exc (c : Nat) (fs : List (String × D))
  | obj (n : Nat)
  deriving Inhabited

/-- how a value is held: shared by anyone, one's own (as an answer: new), lent by a caller, read off a name that holds one's own -/
inductive Fl where
  | sh | own | bor | mine
  deriving DecidableEq, Inhabited

abbrev RV := D × Fl
abbrev Store := List D
abbrev Loc := List (Option RV)

/-- a thing with contents that may change -/
def box : D → Bool
  | .lst _ => true
  | .dk _ => true
  | .dt _ => true
  | .ins _ _ => true
  | _ => false

inductive R (α : Type) where
  | ok (a : α) (S : Store)
  | exc (x : D) (S : Store)
  | bad

def R.go {α T : Type} (ex : D → Store → T) (bd : T) : R α → (α → Store → T) → T
  | .ok a S, f => f a S
  | .exc x S, _ => ex x S
  | .bad, _ => bd
abbrev R.bind {α β : Type} (r : R α) (f : α → Store → R β) : R β := r.go .exc .bad f

/-! ### where values stand -/
abbrev s2 (x : String) : Str := Str.ofString x
/-- the key of a dict -/
def dKey : D → Option Key
  | .int i => some (.inl i)
  | .str x => some (.inr (s2 x))
  | _ => none
def dKeys : List D → Option (List Key)
  | [] => some []
  | d :: ds => match dKey d, dKeys ds with
    | some k, some ks => some (k :: ks)
    | _, _ => none
def dKeyT : D → Option (List Key)
  | .tup ds => dKeys ds
  | _ => none

/-- a list, a tuple, as an object that never changes -/
def sqO (k : Bool × List V) : HO := match k.1 with
  | true => .lst k.2
  | false => .tup k.2
/-- a pair of keys: such a tuple is never one of the written part -/
def pairK (ds : List D) : Bool := decide (ds.length = 2) && (dKeys ds).isSome
/-- contents that may change -/
def boxO : HO → Bool
  | .dK _ => true
  | .dT _ => true
  | _ => false
def exO : HO → Bool
  | .lst _ => true
  | .ins _ _ _ => true
  | _ => false
/-- the fixed facts: the written part, the classes' addresses -/
structure Wd where
  K : PySem.W.Frag
  cl : Nat → Addr

/-- the object of a caught exception -/
def ExcO (cls : Value) (d : Option Addr) (a : Addr) : HO := .ext fun h => ∃ (oe : Obj) (vs : Array Value), h.get? a = some oe ∧ Zc cls d oe ∧ oe.data = .fields vs

/-- a tuple, a list of the written part -/
def KTup (K : PySem.W.Frag) (a : Addr) (xs : List V) : Prop :=
  ∃ (o : Obj) (its : Array Value) (n : Nat), K.lookup a = some o ∧ o.cls = .type "tuple" ∧ o.data = .seq its n ∧ its.size ≤ sizeLine ∧ Vals xs its.toList
def KLst (K : PySem.W.Frag) (a : Addr) (xs : List V) : Prop :=
  ∃ (o : Obj) (its : Array Value) (n : Nat), K.lookup a = some o ∧ o.cls = .type "list" ∧ o.dict = none ∧ o.data = .seq its n ∧ its.size ≤ sizeLine ∧ Vals xs its.toList

section
variable (w : Wd) (m : List Addr) (Z : Addr → Prop) (H : Hp)
mutual
/-- the value d is v, at the heap H: no box of it stands at an address of m or of Z -/
inductive Rep : D → V → Prop where
  | non : Rep .non .non
  | bl (b : Bool) : Rep (.bl b) (.bl b)
  | int (i : Int) : Rep (.int i) (.int i)
  | str (x : String) : Rep (.str x) (.str (s2 x))
  | tup {a : Addr} {vs : List V} {ds : List D} : H a = some (.tup vs) → Reps ds vs → Rep (.tup ds) (.ref a)
  | gtup {a : Addr} {vs : List V} {ds : List D} : KTup w.K a vs → Reps ds vs → pairK ds = false → Rep (.tup ds) (.ref a)
  | frl {a : Addr} {vs : List V} {ds : List D} {o : Obj} : H a = some (.frz o (.lst vs)) → Reps ds vs → Rep (.frl ds) (.ref a)
  | ftp {a : Addr} {vs : List V} {ds : List D} {o : Obj} : H a = some (.frz o (.tup vs)) → o.dict = none → Reps ds vs → Rep (.ftp ds) (.ref a)
  | gfrl {a : Addr} {vs : List V} {ds : List D} : KLst w.K a vs → Reps ds vs → Rep (.frl ds) (.ref a)
  | box {a : Addr} {d : D} : Box d a → ¬ Z a → a ∉ m → Rep d (.ref a)
  | obj {n : Nat} {a : Addr} : m[n]? = some a → Rep (.obj n) (.ref a)
  | exc0 {c : Nat} {a : Addr} : H a = some (ExcO (.ref (w.cl c)) none a) → Rep (.exc c []) (.ref a)
  | excF {c : Nat} {a dd : Addr} {f : String × D} {fs : List (String × D)} {gs : List (Str × V)} : H a = some (ExcO (.ref (w.cl c)) (some dd) a) → H dd = some (.xd gs) → RepN (f :: fs) gs → Rep (.exc c (f :: fs)) (.ref a)
/-- the contents of the box d stand at a, to be read -/
inductive Box : D → Addr → Prop where
  | lst {a : Addr} {vs : List V} {ds : List D} : H a = some (.lst vs) → Reps ds vs → Box (.lst ds) a
  | dk {a : Addr} {kvs : List (D × D)} {ks : List (Key × V)} : Rd H a (.dK ks) → RepK kvs ks → Box (.dk kvs) a
  | dt {a : Addr} {kvs : List (D × D)} {ks : List (List Key × V)} : Rd H a (.dT ks) → RepT kvs ks → Box (.dt kvs) a
  | ins {a dx : Addr} {c : Nat} {fs : List (String × D)} {gs : List (Str × V)} : H a = some (.ins (w.cl c) dx gs) → RepN fs gs → Box (.ins c fs) a
inductive Reps : List D → List V → Prop where
  | nil : Reps [] []
  | cons {d : D} {v : V} {ds : List D} {vs : List V} : Rep d v → Reps ds vs → Reps (d :: ds) (v :: vs)
inductive RepK : List (D × D) → List (Key × V) → Prop where
  | nil : RepK [] []
  | cons {k d : D} {q : Key} {v : V} {kvs : List (D × D)} {ks : List (Key × V)} : dKey k = some q → Rep d v → RepK kvs ks → RepK ((k, d) :: kvs) ((q, v) :: ks)
inductive RepT : List (D × D) → List (List Key × V) → Prop where
  | nil : RepT [] []
  | cons {k d : D} {q : List Key} {v : V} {kvs : List (D × D)} {ks : List (List Key × V)} : dKeyT k = some q → Rep d v → RepT kvs ks → RepT ((k, d) :: kvs) ((q, v) :: ks)
inductive RepN : List (String × D) → List (Str × V) → Prop where
  | nil : RepN [] []
  | cons {x : String} {d : D} {v : V} {fs : List (String × D)} {gs : List (Str × V)} : Rep d v → RepN fs gs → RepN ((x, d) :: fs) ((s2 x, v) :: gs)
end
/-- .. to be read, wherever the box itself stands -/
def Read (d : D) (v : V) : Prop := Rep w m Z H d v ∨ ∃ a, v = .ref a ∧ Box w m Z H d a ∧ a ∉ m
/-- .. to be written -/
inductive BoxW : D → Addr → Prop where
  | lst {a : Addr} {vs : List V} {ds : List D} : H a = some (.lst vs) → Reps w m Z H ds vs → BoxW (.lst ds) a
  | dk {a : Addr} {kvs : List (D × D)} {ks : List (Key × V)} : H a = some (.dK ks) → RepK w m Z H kvs ks → BoxW (.dk kvs) a
  | dt {a : Addr} {kvs : List (D × D)} {ks : List (List Key × V)} : H a = some (.dT ks) → RepT w m Z H kvs ks → BoxW (.dt kvs) a
  | ins {a dx : Addr} {c : Nat} {fs : List (String × D)} {gs : List (Str × V)} : H a = some (.ins (w.cl c) dx gs) → RepN w m Z H fs gs → BoxW (.ins c fs) a
end
variable {w : Wd} {m m' : List Addr} {Z Z' : Addr → Prop} {H H' : Hp}
theorem BoxW.box {d : D} {a : Addr} (h : BoxW w m Z H d a) : Box w m Z H d a := by
  cases h with
  | lst h r => exact .lst h r
  | dk h r => exact .dk (.of h) r
  | dt h r => exact .dt (.of h) r
  | ins h r => exact .ins h r
theorem Read.of {d : D} {v : V} (h : Rep w m Z H d v) : Read w m Z H d v := .inl h

/-- what a change of the heap must keep so that values stay -/
structure Mono (m : List Addr) (Z : Addr → Prop) (H : Hp) (m' : List Addr) (Z' : Addr → Prop) (H' : Hp) : Prop where
  tup : ∀ a xs, H a = some (.tup xs) → H' a = some (.tup xs)
  box : ∀ a u, boxO u = true → Rd H a u → ¬ Z a → a ∉ m → Rd H' a u ∧ ¬ Z' a ∧ a ∉ m'
  exa : ∀ a o, exO o = true → H a = some o → ¬ Z a → a ∉ m → H' a = some o ∧ ¬ Z' a ∧ a ∉ m'
  frl : ∀ a o k, H a = some (.frz o (sqO k)) → H' a = some (.frz o (sqO k))
  exc : ∀ a cls d, H a = some (ExcO cls d a) → H' a = some (ExcO cls d a)
  xd : ∀ a gs, H a = some (.xd gs) → H' a = some (.xd gs)
  obj : ∀ (n : Nat) a, m[n]? = some a → m'[n]? = some a
section
variable (M : Mono m Z H m' Z' H')
include M
mutual
theorem Rep.mono : ∀ {d : D} {v : V}, Rep w m Z H d v → Rep w m' Z' H' d v
  | _, _, .non => .non
  | _, _, .bl b => .bl b
  | _, _, .int i => .int i
  | _, _, .str x => .str x
  | _, _, .tup h r => .tup (M.tup _ _ h) (Reps.mono r)
  | _, _, .gtup h r n => .gtup h (Reps.mono r) n
  | _, _, .frl (vs := vs) h r => .frl (M.frl _ _ (true, vs) h) (Reps.mono r)
  | _, _, .ftp (vs := vs) h e r => .ftp (M.frl _ _ (false, vs) h) e (Reps.mono r)
  | _, _, .gfrl h r => .gfrl h (Reps.mono r)
  | _, _, .box (.lst h r) z n => let ⟨a, b, c⟩ := M.exa _ _ rfl h z n; .box (.lst a (Reps.mono r)) b c
  | _, _, .box (.dk h r) z n => let ⟨a, b, c⟩ := M.box _ _ rfl h z n; .box (.dk a (RepK.mono r)) b c
  | _, _, .box (.dt h r) z n => let ⟨a, b, c⟩ := M.box _ _ rfl h z n; .box (.dt a (RepT.mono r)) b c
  | _, _, .box (.ins h r) z n => let ⟨a, b, c⟩ := M.exa _ _ rfl h z n; .box (.ins a (RepN.mono r)) b c
  | _, _, .obj h => .obj (M.obj _ _ h)
  | _, _, .exc0 h => .exc0 (M.exc _ _ _ h)
  | _, _, .excF h1 h2 r => .excF (M.exc _ _ _ h1) (M.xd _ _ h2) (RepN.mono r)
theorem Reps.mono : ∀ {ds : List D} {vs : List V}, Reps w m Z H ds vs → Reps w m' Z' H' ds vs
  | _, _, .nil => .nil
  | _, _, .cons h r => .cons (Rep.mono h) (Reps.mono r)
theorem RepK.mono : ∀ {ds : List (D × D)} {vs : List (Key × V)}, RepK w m Z H ds vs → RepK w m' Z' H' ds vs
  | _, _, .nil => .nil
  | _, _, .cons e h r => .cons e (Rep.mono h) (RepK.mono r)
theorem RepT.mono : ∀ {ds : List (D × D)} {vs : List (List Key × V)}, RepT w m Z H ds vs → RepT w m' Z' H' ds vs
  | _, _, .nil => .nil
  | _, _, .cons e h r => .cons e (Rep.mono h) (RepT.mono r)
theorem RepN.mono : ∀ {ds : List (String × D)} {vs : List (Str × V)}, RepN w m Z H ds vs → RepN w m' Z' H' ds vs
  | _, _, .nil => .nil
  | _, _, .cons h r => .cons (Rep.mono h) (RepN.mono r)
end
theorem Read.mono (hb : ∀ a u, boxO u = true → Rd H a u → a ∉ m → Rd H' a u ∧ a ∉ m') (hi : ∀ a o, exO o = true → H a = some o → a ∉ m → H' a = some o ∧ a ∉ m') {d : D} {v : V} (h : Read w m Z H d v) : Read w m' Z' H' d v := by
  rcases h with h | ⟨a, e, h, n⟩
  · exact .inl (h.mono M)
  · refine .inr ⟨a, e, ?_⟩
    cases h with
    | lst h r => exact ⟨.lst (hi _ _ rfl h n).1 (Reps.mono M r), (hi _ _ rfl h n).2⟩
    | dk h r => exact ⟨.dk (hb _ _ rfl h n).1 (RepK.mono M r), (hb _ _ rfl h n).2⟩
    | dt h r => exact ⟨.dt (hb _ _ rfl h n).1 (RepT.mono M r), (hb _ _ rfl h n).2⟩
    | ins h r => exact ⟨.ins (hi _ _ rfl h n).1 (RepN.mono M r), (hi _ _ rfl h n).2⟩
end

/-! ### steps -/
/-- what never changes, wherever it stands -/
def fixO (b : Addr) (o : HO) : Prop := (∃ xs, o = .tup xs) ∨ (∃ cls d, o = ExcO cls d b) ∨ (∃ gs, o = .xd gs) ∨ ∃ ob k, o = .frz ob (sqO k)
/-- what an expression does to the heap: all that is tracked stays, but the objects of m; new ones come -/
structure StepE (m : List Addr) (H : Hp) (m' : List Addr) (H' : Hp) : Prop where
  keep : ∀ b o, H b = some o → (b ∉ m ∨ fixO b o) → (∀ ps, o ≠ .tbl ps) → H' b = some o
  grow : ∀ b, H' b = none → H b = none
  ms : ∃ ex, m' = m ++ ex ∧ ∀ b ∈ ex, H b = none
theorem StepE.refl (m : List Addr) (H : Hp) : StepE m H m H := ⟨fun _ _ e _ _ => e, fun _ e => e, [], by simp⟩
theorem StepE.trans {m1 m2 m3 : List Addr} {H1 H2 H3 : Hp} (a : StepE m1 H1 m2 H2) (b : StepE m2 H2 m3 H3) : StepE m1 H1 m3 H3 := by
  obtain ⟨e1, rfl, n1⟩ := a.ms
  obtain ⟨e2, rfl, n2⟩ := b.ms
  refine ⟨fun c o e hm hp => b.keep c o (a.keep c o e hm hp) (hm.imp (fun hm q => ?_) id) hp, fun c e => a.grow c (b.grow c e), e1 ++ e2, by simp, fun c hc => ?_⟩
  · rcases List.mem_append.mp q with q | q
    · exact hm q
    · rw [n1 c q] at e; cases e
  · rcases List.mem_append.mp hc with q | q
    · exact n1 c q
    · exact a.grow c (n2 c q)
theorem rd_ne {H : Hp} {a : Addr} {u : HO} (h : Rd H a u) : H a ≠ none := by
  rcases h with h | ⟨o, h⟩ <;> (rw [h]; simp)
theorem exO_tbl {u : HO} (h : exO u = true) : ∀ ps, u ≠ .tbl ps := fun ps q => by subst q; cases h
theorem boxO_tbl {u : HO} (h : boxO u = true) : ∀ ps, u ≠ .tbl ps := fun ps q => by subst q; cases h
section
variable {m m' : List Addr} {H H' : Hp} (s : StepE m H m' H')
include s
theorem StepE.rd {a : Addr} {u : HO} (h : Rd H a u) (n : a ∉ m) (hp : ∀ ps, u ≠ .tbl ps) : Rd H' a u := by
  rcases h with h | ⟨o, h⟩
  · exact .inl (s.keep _ _ h (.inl n) hp)
  · exact .inr ⟨o, s.keep _ _ h (.inl n) (fun _ q => by cases q)⟩
theorem StepE.notm {a : Addr} (h : H a ≠ none) (n : a ∉ m) : a ∉ m' := by
  obtain ⟨ex, rfl, hx⟩ := s.ms
  intro q
  rcases List.mem_append.mp q with q | q
  · exact n q
  · exact h (hx _ q)
/-- all values stay over an expression's step; Z may become less -/
theorem StepE.mono {Z Z' : Addr → Prop} (hz : ∀ a, Z' a → Z a) : Mono m Z H m' Z' H' where
  tup := fun a xs h => s.keep _ _ h (.inr (.inl ⟨_, rfl⟩)) (fun _ q => by cases q)
  box := fun a ks hb h z n => ⟨s.rd h n (boxO_tbl hb), fun q => z (hz _ q), s.notm (rd_ne h) n⟩
  exa := fun a o ho h z n => ⟨s.keep _ _ h (.inl n) (exO_tbl ho), fun q => z (hz _ q), s.notm (by rw [h]; simp) n⟩
  frl := fun a o xs h => s.keep _ _ h (.inr (.inr (.inr (.inr ⟨_, _, rfl⟩)))) (fun _ q => by cases q)
  exc := fun a cls d h => s.keep _ _ h (.inr (.inr (.inl ⟨_, _, rfl⟩))) (fun _ q => by unfold ExcO at q; cases q)
  xd := fun a gs h => s.keep _ _ h (.inr (.inr (.inr (.inl ⟨_, rfl⟩)))) (fun _ q => by cases q)
  obj := fun n a h => by
    obtain ⟨ex, rfl, _⟩ := s.ms
    rw [List.getElem?_append_left (List.getElem?_eq_some_iff.mp h).1]
    exact h
variable {w : Wd} {Z : Addr → Prop}
theorem StepE.rep {d : D} {v : V} (h : Rep w m Z H d v) : Rep w m' Z H' d v := h.mono (s.mono fun _ q => q)
theorem StepE.reps {d : List D} {v : List V} (h : Reps w m Z H d v) : Reps w m' Z H' d v := h.mono (s.mono fun _ q => q)
theorem StepE.read {d : D} {v : V} (h : Read w m Z H d v) : Read w m' Z H' d v :=
  h.mono (s.mono fun _ q => q) (fun _ _ hb h n => ⟨s.rd h n (boxO_tbl hb), s.notm (rd_ne h) n⟩) fun _ _ ho h n => ⟨s.keep _ _ h (.inl n) (exO_tbl ho), s.notm (by rw [h]; simp) n⟩
theorem StepE.boxW {d : D} {a : Addr} (h : BoxW w m Z H d a) (n : a ∉ m) : BoxW w m' Z H' d a := by
  have M : Mono m Z H m' Z H' := s.mono fun _ q => q
  cases h with
  | lst h r => exact .lst (s.keep _ _ h (.inl n) (fun _ q => by cases q)) (r.mono M)
  | dk h r => exact .dk (s.keep _ _ h (.inl n) (fun _ q => by cases q)) (r.mono M)
  | dt h r => exact .dt (s.keep _ _ h (.inl n) (fun _ q => by cases q)) (r.mono M)
  | ins h r => exact .ins (s.keep _ _ h (.inl n) (fun _ q => by cases q)) (r.mono M)
end
/-- Z may grow by what isn't tracked -/
theorem mono_z {m : List Addr} {Z Z' : Addr → Prop} {H : Hp} (hz : ∀ a, Z' a → Z a ∨ H a = none) : Mono m Z H m Z' H where
  tup := fun _ _ h => h
  box := fun a u _ h z n => ⟨h, fun q => (hz a q).elim z (rd_ne h), n⟩
  exa := fun a o _ h z n => ⟨h, fun q => (hz a q).elim z (by rw [h]; simp), n⟩
  frl := fun _ _ _ h => h
  exc := fun _ _ _ h => h
  xd := fun _ _ h => h
  obj := fun _ _ h => h
end DL

set_option maxRecDepth 100000
namespace DL
open PySem L2

structure G where
  m : List Addr
  zo : List Addr
  zb : List Addr
  sl : Option Addr
def G.Z (g : G) : Addr → Prop := fun a => a ∈ g.zo ∨ a ∈ g.zb
abbrev G.at (g : G) (m : List Addr) : G := { g with m := m }

/-- lent: to be read, and no box of one's own -/
def Lent (w : Wd) (g : G) (H : Hp) (d : D) (v : V) : Prop := Rep w g.m g.Z H d v ∨ ∃ a, v = .ref a ∧ Box w g.m g.Z H d a ∧ a ∉ g.m ∧ a ∉ g.zo
theorem Lent.read {w : Wd} {g : G} {H : Hp} {d : D} {v : V} (h : Lent w g H d v) : Read w g.m g.Z H d v := h.imp id fun ⟨a, e, b, n, _⟩ => ⟨a, e, b, n⟩
def Held (w : Wd) (g : G) (H : Hp) (d : D) : Fl → V → Prop
  | .sh, v => Rep w g.m g.Z H d v
  | .bor, v => Lent w g H d v
  | .mine, _ => False
  | .own, v => ∃ a, v = .ref a ∧ BoxW w g.m g.Z H d a ∧ a ∈ g.zo ∧ a ∉ g.m
/-- the objects with names of their own -/
structure Stored (w : Wd) (m : List Addr) (Z : Addr → Prop) (H : Hp) (S : Store) : Prop where
  len : S.length = m.length
  at_ : ∀ (n : Nat) d, S[n]? = some d → ∃ a, m[n]? = some a ∧ BoxW w m Z H d a
structure Rel (w : Wd) (g : G) (ρ : Loc) (S : Store) (σ : St) (H : Hp) : Prop where
  len : σ.length = ρ.length
  loc : ∀ (i : Nat) d fl, ρ[i]? = some (some (d, fl)) → ∃ v, σ[i]? = some (some v) ∧ Held w g H d fl v
  inj : ∀ (i j : Nat) d e a, ρ[i]? = some (some (d, .own)) → ρ[j]? = some (some (e, .own)) → σ[i]? = some (some (.ref a)) → σ[j]? = some (some (.ref a)) → i = j
  sto : Stored w g.m g.Z H S
  nd : g.m.Nodup
  sep : ∀ b ∈ g.m, ¬ g.Z b
  sez : ∀ b ∈ g.zo, b ∉ g.zb
  trk : ∀ b, (b ∈ g.m ∨ g.Z b) → H b ≠ none
  slf : ∀ x d, g.sl = some x → ρ[0]? = some (some (d, .own)) → σ[0]? = some (some (.ref x))

/-- the answer of an expression; H: ahead of it -/
def Res (w : Wd) (g : G) (H : Hp) (r : RV) (S : Store) (v : V) (H' : Hp) : Prop :=
  match r.2 with
  | .sh => Rep w g.m g.Z H' r.1 v
  | .bor => Lent w g H' r.1 v
  | .mine => Read w g.m g.Z H' r.1 v
  | .own => ∃ a, v = .ref a ∧ H a = none ∧ a ∉ g.m ∧ ¬ g.Z a ∧ BoxW w g.m (fun b => g.Z b ∨ b = a) H' r.1 a ∧ Stored w g.m (fun b => g.Z b ∨ b = a) H' S
/-- what an argument is known by -/
def Arg (w : Wd) (m : List Addr) (Z : Addr → Prop) (H : Hp) (r : RV) (v : V) : Prop :=
  match r.2 with
  | .bor => Read w m Z H r.1 v
  | .mine => Read w m Z H r.1 v
  | _ => Rep w m Z H r.1 v
theorem BoxW.rep {w : Wd} {m : List Addr} {Z : Addr → Prop} {H : Hp} {d : D} {a : Addr} (h : BoxW w m Z H d a) (n : a ∉ m) (z : ¬ Z a) : Rep w m Z H d (.ref a) := .box h.box z n
theorem BoxW.less {w : Wd} {m : List Addr} {Z Z' : Addr → Prop} {H : Hp} {d : D} {a : Addr} (h : BoxW w m Z H d a) (hz : ∀ b, Z' b → Z b ∨ H b = none) : BoxW w m Z' H d a := by
  have M := mono_z (m := m) hz
  cases h with
  | lst h r => exact .lst h (r.mono M)
  | dk h r => exact .dk h (r.mono M)
  | dt h r => exact .dt h (r.mono M)
  | ins h r => exact .ins h (r.mono M)
theorem Stored.less {w : Wd} {m : List Addr} {Z Z' : Addr → Prop} {H : Hp} {S : Store} (h : Stored w m Z H S) (hz : ∀ b, Z' b → Z b ∨ H b = none) : Stored w m Z' H S :=
  ⟨h.len, fun n d e => let ⟨a, q, b⟩ := h.at_ n d e; ⟨a, q, b.less hz⟩⟩
theorem Res.arg {w : Wd} {g : G} {H H' : Hp} {r : RV} {S : Store} {v : V} (h : Res w g H r S v H') : Arg w g.m g.Z H' r v := by
  obtain ⟨d, fl⟩ := r
  cases fl with
  | sh => exact h
  | bor => exact Lent.read h
  | mine => exact h
  | own =>
    obtain ⟨a, rfl, _, n, z, b, _⟩ := h
    exact (b.less fun b q => .inl (.inl q)).rep n z
theorem Arg.read {w : Wd} {m : List Addr} {Z : Addr → Prop} {H : Hp} {r : RV} {v : V} (h : Arg w m Z H r v) : Read w m Z H r.1 v := by
  obtain ⟨d, fl⟩ := r
  cases fl with
  | sh => exact .inl h
  | bor => exact h
  | mine => exact h
  | own => exact .inl h
theorem StepE.arg {w : Wd} {m m' : List Addr} {H H' : Hp} (s : StepE m H m' H') {Z : Addr → Prop} {r : RV} {v : V} (h : Arg w m Z H r v) : Arg w m' Z H' r v := by
  obtain ⟨d, fl⟩ := r
  cases fl with
  | sh => exact s.rep h
  | bor => exact s.read h
  | mine => exact s.read h
  | own => exact s.rep h

def ROk (w : Wd) (g : G) (H : Hp) (ρ : Loc) (σ : St) (r : RV) (S : Store) (v : V) (H' : Hp) : Prop :=
  ∃ m', StepE g.m H m' H' ∧ Rel w (g.at m') ρ S σ H' ∧ Res w (g.at m') H r S v H'
/-- an exception in the air -/
def RepX (w : Wd) (m : List Addr) (Z : Addr → Prop) (H : Hp) (x : D) (cls : Value) (dd : Option Addr) : Prop :=
  ∃ c fs, x = .exc c fs ∧ cls = .ref (w.cl c) ∧ ((fs = [] ∧ dd = none) ∨ ∃ a gs, dd = some a ∧ fs ≠ [] ∧ H a = some (.xd gs) ∧ RepN w m Z H fs gs)
def XOk (w : Wd) (g : G) (H : Hp) (ρ : Loc) (σ : St) (x : D) (S : Store) (cls : Value) (dd : Option Addr) (H' : Hp) : Prop :=
  ∃ m', StepE g.m H m' H' ∧ Rel w (g.at m') ρ S σ H' ∧ RepX w m' g.Z H' x cls dd

abbrev SE := Loc → Store → R RV
abbrev ST := Loc → Store → R Bool
abbrev SA := Loc → Store → R (List RV)

inductive Args (w : Wd) (m : List Addr) (Z : Addr → Prop) (H : Hp) : List RV → List V → Prop where
  | nil : Args w m Z H [] []
  | cons {r : RV} {v : V} {rs : List RV} {vs : List V} : Arg w m Z H r v → Args w m Z H rs vs → Args w m Z H (r :: rs) (v :: vs)
theorem Args.step {w : Wd} {m m' : List Addr} {H H' : Hp} (s : StepE m H m' H') {Z : Addr → Prop} : ∀ {rs : List RV} {vs : List V}, Args w m Z H rs vs → Args w m' Z H' rs vs
  | _, _, .nil => .nil
  | _, _, .cons h r => .cons (s.arg h) (Args.step s r)
/-! ### the state stays over steps -/
theorem StepE.lent {w : Wd} {g : G} {m' : List Addr} {H H' : Hp} (s : StepE g.m H m' H') {d : D} {v : V} (h : Lent w g H d v) : Lent w (g.at m') H' d v := by
  rcases h with h | ⟨a, e, b, n, z⟩
  · exact .inl (s.rep h)
  · have M : Mono g.m g.Z H m' g.Z H' := s.mono fun _ q => q
    refine .inr ⟨a, e, ?_⟩
    cases b with
    | lst h r => exact ⟨.lst (s.keep _ _ h (.inl n) (fun _ q => by cases q)) (r.mono M), s.notm (by rw [h]; simp) n, z⟩
    | dk h r => exact ⟨.dk (s.rd h n (fun _ q => by cases q)) (r.mono M), s.notm (rd_ne h) n, z⟩
    | dt h r => exact ⟨.dt (s.rd h n (fun _ q => by cases q)) (r.mono M), s.notm (rd_ne h) n, z⟩
    | ins h r => exact ⟨.ins (s.keep _ _ h (.inl n) (fun _ q => by cases q)) (r.mono M), s.notm (by rw [h]; simp) n, z⟩
theorem Held.step {w : Wd} {g : G} {m' : List Addr} {H H' : Hp} (s : StepE g.m H m' H') {d : D} {fl : Fl} {v : V} (h : Held w g H d fl v) : Held w (g.at m') H' d fl v := by
  cases fl with
  | sh => exact s.rep h
  | bor => exact s.lent h
  | mine => exact h.elim
  | own =>
    obtain ⟨a, e, b, z, n⟩ := h
    exact ⟨a, e, s.boxW b n, z, s.notm (by cases b with | lst h _ => rw [h]; simp | dk h _ => rw [h]; simp | dt h _ => rw [h]; simp | ins h _ => rw [h]; simp) n⟩
/-- the state behind a step: what the objects hold is said anew -/
theorem Rel.step {w : Wd} {g : G} {ρ : Loc} {S S' : Store} {σ : St} {H H' : Hp} {m' : List Addr} (r : Rel w g ρ S σ H) (s : StepE g.m H m' H') (sto : Stored w m' g.Z H' S') (nd : m'.Nodup) (tr : ∀ b ∈ m', H' b ≠ none) : Rel w (g.at m') ρ S' σ H' where
  len := r.len
  loc := fun i d fl e => let ⟨v, q, h⟩ := r.loc i d fl e; ⟨v, q, h.step s⟩
  inj := r.inj
  sto := sto
  nd := nd
  sep := fun b hb z => by
    obtain ⟨ex, rfl, hx⟩ := s.ms
    rcases List.mem_append.mp hb with q | q
    · exact r.sep b q z
    · exact r.trk b (.inr z) (hx b q)
  sez := r.sez
  slf := r.slf
  trk := fun b h => by
    rcases h with h | h
    · exact tr b h
    · exact fun q => r.trk b (.inr h) (s.grow b q)
theorem Stored.step {w : Wd} {m : List Addr} {Z : Addr → Prop} {H H' : Hp} {S : Store} (h : Stored w m Z H S) (s : StepE m H m H') (hm : ∀ b ∈ m, H' b = H b) : Stored w m Z H' S :=
  ⟨h.len, fun n d e => by
    obtain ⟨a, q, b⟩ := h.at_ n d e
    have M : Mono m Z H m Z H' := s.mono fun _ z => z
    have ea := hm a (List.mem_of_getElem? q)
    refine ⟨a, q, ?_⟩
    cases b with
    | lst h r => exact .lst (ea.trans h) (r.mono M)
    | dk h r => exact .dk (ea.trans h) (r.mono M)
    | dt h r => exact .dt (ea.trans h) (r.mono M)
    | ins h r => exact .ins (ea.trans h) (r.mono M)⟩
/-- a new thing that has no name -/
theorem StepE.new {m : List Addr} {H : Hp} {p : Addr} {o : HO} (h : H p = none) : StepE m H m (upd H p o) where
  keep := fun b u e _ _ => by rw [upd_ne (ne_of_none e h)]; exact e
  grow := fun b e => by
    by_cases q : b = p
    · rw [q]; exact h
    · rw [upd_ne q] at e; exact e
  ms := ⟨[], by simp⟩
theorem Rel.new {w : Wd} {g : G} {ρ : Loc} {S : Store} {σ : St} {H : Hp} {p : Addr} {o : HO} (r : Rel w g ρ S σ H) (h : H p = none) : Rel w g ρ S σ (upd H p o) := by
  have s : StepE g.m H g.m (upd H p o) := .new h
  have hm : ∀ b ∈ g.m, upd H p o b = H b := fun b hb => upd_ne fun q => r.trk b (.inl hb) (by rw [q]; exact h)
  exact r.step s (r.sto.step s hm) r.nd fun b hb => by rw [hm b hb]; exact r.trk b (.inl hb)
theorem ROk.same {w : Wd} {g : G} {ρ : Loc} {S : Store} {σ : St} {H : Hp} {d : D} {v : V} (r : Rel w g ρ S σ H) (h : Rep w g.m g.Z H d v) : ROk w g H ρ σ (d, .sh) S v H := ⟨g.m, .refl _ _, r, h⟩
theorem ROk.tup {w : Wd} {g : G} {ρ : Loc} {S : Store} {σ : St} {H : Hp} {ds : List D} {vs : List V} {p : Addr} (r : Rel w g ρ S σ H) (h : Reps w g.m g.Z H ds vs) (hp : H p = none) :
    ROk w g H ρ σ (.tup ds, .sh) S (.ref p) (upd H p (.tup vs)) :=
  ⟨g.m, .new hp, r.new hp, .tup upd_same ((StepE.new hp).reps h)⟩
/-- a new box of one's own -/
theorem ROk.box {w : Wd} {g : G} {ρ : Loc} {S : Store} {σ : St} {H : Hp} {d : D} {o : HO} {p : Addr} (r : Rel w g ρ S σ H) (hp : H p = none) (h : BoxW w g.m (fun b => g.Z b ∨ b = p) (upd H p o) d p) :
    ROk w g H ρ σ (d, .own) S (.ref p) (upd H p o) := by
  have s : StepE g.m H g.m (upd H p o) := .new hp
  have hm : ∀ b ∈ g.m, upd H p o b = H b := fun b hb => upd_ne fun q => r.trk b (.inl hb) (by rw [q]; exact hp)
  refine ⟨g.m, s, r.new hp, p, rfl, hp, fun q => r.trk p (.inl q) hp, fun q => r.trk p (.inr q) hp, h, ?_⟩
  have s1 : Stored w g.m (fun b => g.Z b ∨ b = p) H S := r.sto.less fun b q => q.elim .inl fun q => .inr (by rw [q]; exact hp)
  exact s1.step s hm
theorem Reps.fresh {w : Wd} {m : List Addr} {Z : Addr → Prop} {H : Hp} {ds : List D} {vs : List V} {p : Addr} {o : HO} (h : Reps w m Z H ds vs) (hp : H p = none) : Reps w m (fun b => Z b ∨ b = p) (upd H p o) ds vs :=
  (h.mono (mono_z (Z' := fun b => Z b ∨ b = p) fun b q => q.elim .inl fun q => .inr (by rw [q]; exact hp))).mono ((StepE.new hp).mono fun _ q => q)
theorem ROk.lst {w : Wd} {g : G} {ρ : Loc} {S : Store} {σ : St} {H : Hp} {ds : List D} {vs : List V} {p : Addr} (r : Rel w g ρ S σ H) (h : Reps w g.m g.Z H ds vs) (hp : H p = none) :
    ROk w g H ρ σ (.lst ds, .own) S (.ref p) (upd H p (.lst vs)) := .box r hp (.lst upd_same (h.fresh hp))
theorem ROk.trans {w : Wd} {g : G} {ρ : Loc} {S : Store} {σ : St} {H H1 H' : Hp} {m1 : List Addr} {r : RV} {v : V} (s : StepE g.m H m1 H1) (h : ROk w (g.at m1) H1 ρ σ r S v H') : ROk w g H ρ σ r S v H' := by
  obtain ⟨m', s', rel, res⟩ := h
  refine ⟨m', s.trans s', rel, ?_⟩
  obtain ⟨d, fl⟩ := r
  cases fl with
  | sh => exact res
  | bor => exact res
  | mine => exact res
  | own =>
    obtain ⟨a, e, hn, rest⟩ := res
    exact ⟨a, e, s.grow a hn, rest⟩
theorem XOk.trans {w : Wd} {g : G} {ρ : Loc} {S : Store} {σ : St} {H H1 H' : Hp} {m1 : List Addr} {x : D} {cls : Value} {dd : Option Addr} (s : StepE g.m H m1 H1) (h : XOk w (g.at m1) H1 ρ σ x S cls dd H') : XOk w g H ρ σ x S cls dd H' := by
  obtain ⟨m', s', rel, res⟩ := h
  exact ⟨m', s.trans s', rel, res⟩
end DL

set_option maxRecDepth 100000
namespace DL
open PySem L2

/-! ### texts -/
theorem s2_inj {x y : String} (h : s2 x = s2 y) : x = y := by
  have h1 : (x.toList.map Char.toNat).toArray = (y.toList.map Char.toNat).toArray := by
    have := congrArg Str.cps h
    rw [show s2 x = _ from Str.ofString_eq_toList x, show s2 y = _ from Str.ofString_eq_toList y] at this
    exact this
  have h2 : x.toList.map Char.toNat = y.toList.map Char.toNat := by simpa using congrArg Array.toList h1
  have h3 : x.toList = y.toList := by
    refine (List.map_inj_right fun a b e => ?_).mp h2
    exact Char.ext (UInt32.toNat_inj.mp e)
  exact String.toList_inj.mp h3
theorem s2_eq (x y : String) : (s2 x = s2 y) = (x = y) := propext ⟨s2_inj, fun h => h ▸ rfl⟩
theorem s2_cps (x : String) : (s2 x).cps = (x.toList.map Char.toNat).toArray := by
  rw [show s2 x = _ from Str.ofString_eq_toList x]
theorem s2_len (x : String) : (s2 x).length = x.length := by
  show (s2 x).cps.size = _
  rw [s2_cps]; simp [String.length_toList]
theorem s2_app (x y : String) : s2 x ++ s2 y = s2 (x ++ y) := by
  show (⟨(s2 x).cps ++ (s2 y).cps⟩ : Str) = _
  rw [show s2 (x ++ y) = _ from Str.ofString_eq_toList _, s2_cps, s2_cps]
  simp

/-! ### what an expression comes to -/
def leakOk (r : RV) : Bool := !((r.2 == .bor || r.2 == .mine) && box r.1)
theorem Box.isBox {w : Wd} {m : List Addr} {Z : Addr → Prop} {H : Hp} {d : D} {a : Addr} (h : Box w m Z H d a) : box d = true := by
  cases h <;> rfl
theorem Read.rep {w : Wd} {m : List Addr} {Z : Addr → Prop} {H : Hp} {d : D} {v : V} (h : Read w m Z H d v) (n : box d = false) : Rep w m Z H d v := by
  rcases h with h | ⟨a, _, h, _⟩
  · exact h
  · rw [h.isBox] at n; cases n
theorem Arg.rep {w : Wd} {m : List Addr} {Z : Addr → Prop} {H : Hp} {r : RV} {v : V} (h : Arg w m Z H r v) (n : leakOk r = true) : Rep w m Z H r.1 v := by
  obtain ⟨d, fl⟩ := r
  cases fl with
  | sh => exact h
  | own => exact h
  | bor => exact Read.rep h (by simpa [leakOk] using n)
  | mine => exact Read.rep h (by simpa [leakOk] using n)
theorem Args.reps {w : Wd} {m : List Addr} {Z : Addr → Prop} {H : Hp} : ∀ {rs : List RV} {vs : List V}, Args w m Z H rs vs → rs.all leakOk = true → Reps w m Z H (rs.map (·.1)) vs
  | _, _, .nil, _ => .nil
  | _, _, .cons h t, n => by
    rw [List.all_cons, Bool.and_eq_true] at n
    exact .cons (h.rep n.1) (Args.reps t n.2)
theorem Args.length {w : Wd} {m : List Addr} {Z : Addr → Prop} {H : Hp} : ∀ {rs : List RV} {vs : List V}, Args w m Z H rs vs → rs.length = vs.length
  | _, _, .nil => rfl
  | _, _, .cons _ t => congrArg (· + 1) (Args.length t)
theorem Reps.length {w : Wd} {m : List Addr} {Z : Addr → Prop} {H : Hp} : ∀ {ds : List D} {vs : List V}, Reps w m Z H ds vs → ds.length = vs.length
  | _, _, .nil => rfl
  | _, _, .cons _ t => congrArg (· + 1) (Reps.length t)
theorem Reps.get {w : Wd} {m : List Addr} {Z : Addr → Prop} {H : Hp} : ∀ {ds : List D} {vs : List V} {i : Nat} {d : D}, Reps w m Z H ds vs → ds[i]? = some d → ∃ v, vs[i]? = some v ∧ Rep w m Z H d v
  | _, _, 0, _, .cons h _, e => by simp at e; subst e; exact ⟨_, rfl, h⟩
  | _, _, i + 1, d, .cons _ t, e => by
    obtain ⟨v, h1, h2⟩ := Reps.get (i := i) (d := d) t (by simpa using e)
    exact ⟨v, by simpa using h1, h2⟩
theorem Reps.app {w : Wd} {m : List Addr} {Z : Addr → Prop} {H : Hp} : ∀ {ds es : List D} {vs us : List V}, Reps w m Z H ds vs → Reps w m Z H es us → Reps w m Z H (ds ++ es) (vs ++ us)
  | _, _, _, _, .nil, s => s
  | _, _, _, _, .cons h t, s => .cons h (Reps.app t s)
theorem Reps.take {w : Wd} {m : List Addr} {Z : Addr → Prop} {H : Hp} : ∀ {ds : List D} {vs : List V} (n : Nat), Reps w m Z H ds vs → Reps w m Z H (ds.take n) (vs.take n)
  | _, _, 0, _ => .nil
  | _, _, _ + 1, .nil => .nil
  | _, _, n + 1, .cons h t => .cons h (Reps.take n t)
theorem Reps.drop {w : Wd} {m : List Addr} {Z : Addr → Prop} {H : Hp} : ∀ {ds : List D} {vs : List V} (n : Nat), Reps w m Z H ds vs → Reps w m Z H (ds.drop n) (vs.drop n)
  | _, _, 0, r => r
  | _, _, _ + 1, .nil => .nil
  | _, _, n + 1, .cons _ t => Reps.drop n t
theorem Reps.rep {w : Wd} {m : List Addr} {Z : Addr → Prop} {H : Hp} {ds : List D} {vs : List V} (h : Reps w m Z H ds vs) : ∀ n : Nat, Reps w m Z H (List.replicate n ds).flatten (List.replicate n vs).flatten
  | 0 => .nil
  | n + 1 => by
    rw [List.replicate_succ, List.replicate_succ, List.flatten_cons, List.flatten_cons]
    exact h.app (Reps.rep h n)
theorem Reps.snoc {w : Wd} {m : List Addr} {Z : Addr → Prop} {H : Hp} {ds : List D} {vs : List V} {d : D} {v : V} (h : Reps w m Z H ds vs) (r : Rep w m Z H d v) : Reps w m Z H (ds ++ [d]) (vs ++ [v]) := h.app (.cons r .nil)

/-! ### names, constants, displays -/
def sVar (i : Nat) : SE := fun ρ S => match ρ[i]? with
  | some (some (d, .own)) => .ok (d, .mine) S
  | some (some (d, .mine)) => .bad
  | some (some (d, fl)) => .ok (d, fl) S
  | _ => .bad
def sCst (d : D) : SE := fun _ S => .ok (d, .sh) S
def sNil : SA := fun _ S => .ok [] S
def sCons (f : SE) (fs : SA) : SA := fun ρ S => (f ρ S).bind fun r S1 => (fs ρ S1).bind fun rs S2 => .ok (r :: rs) S2
def sTup (fs : SA) : SE := fun ρ S => (fs ρ S).bind fun rs S1 => if rs.all leakOk = true ∧ rs.length ≤ sizeLine then .ok (.tup (rs.map (·.1)), .sh) S1 else .bad
def sLst (fs : SA) : SE := fun ρ S => (fs ρ S).bind fun rs S1 => if rs.all leakOk = true ∧ rs.length ≤ sizeLine then .ok (.lst (rs.map (·.1)), .own) S1 else .bad
/-- a test by a value that is True or False -/
def sT (f : SE) : ST := fun ρ S => (f ρ S).bind fun r S1 => match r.1 with
  | .bl b => .ok b S1
  | _ => .bad
def sIf (t : ST) (f g : SE) : SE := fun ρ S => (t ρ S).bind fun b S1 => if b = true then f ρ S1 else g ρ S1
def sAnd (f g : SE) : SE := fun ρ S => (f ρ S).bind fun r S1 => match r.1 with
  | .bl true => g ρ S1
  | .bl false => .ok (.bl false, .sh) S1
  | _ => .bad
def sOr (f g : SE) : SE := fun ρ S => (f ρ S).bind fun r S1 => match r.1 with
  | .bl true => .ok (.bl true, .sh) S1
  | .bl false => g ρ S1
  | _ => .bad
def sNot (f : SE) : SE := fun ρ S => (f ρ S).bind fun r S1 => match r.1 with
  | .bl b => .ok (.bl (!b), .sh) S1
  | _ => .bad
def tAndS (s t : ST) : ST := fun ρ S => (s ρ S).bind fun b S1 => if b = true then t ρ S1 else .ok false S1
def tOrS (s t : ST) : ST := fun ρ S => (s ρ S).bind fun b S1 => if b = true then .ok true S1 else t ρ S1
def tNotS (s : ST) : ST := fun ρ S => (s ρ S).bind fun b S1 => .ok (!b) S1

/-! ### posts -/
section
variable {w : Wd} {W : WX}
/-- what a post must allow: a step ahead, an exception, no bad end -/
structure Good (w : Wd) (W : WX) (ρ : Loc) (σ : St) {T : Type} (ex : D → Store → T) (bd : T) (P : G → Hp → T → Prop) : Prop where
  step : ∀ g H m1 H1 t, StepE g.m H m1 H1 → P g H t → P (g.at m1) H1 t
  exc : ∀ g H x S, P g H (ex x S) → ∀ cls dd H', XOk w g H ρ σ x S cls dd H' → W cls dd σ H'
  bad : ∀ g H, ¬ P g H bd
def PostE (w : Wd) (W : WX) (ρ : Loc) (σ : St) (Q : VK) (g : G) (H : Hp) (t : R RV) : Prop := match t with
  | .ok r S' => ∀ v H', ROk w g H ρ σ r S' v H' → Q v H'
  | .exc x S' => ∀ cls dd H', XOk w g H ρ σ x S' cls dd H' → W cls dd σ H'
  | .bad => False
def PostT (w : Wd) (W : WX) (ρ : Loc) (σ : St) (Q : Bool → Hp → Prop) (g : G) (H : Hp) (t : R Bool) : Prop := match t with
  | .ok b S' => ∀ H', (∃ m', StepE g.m H m' H' ∧ Rel w (g.at m') ρ S' σ H') → Q b H'
  | .exc x S' => ∀ cls dd H', XOk w g H ρ σ x S' cls dd H' → W cls dd σ H'
  | .bad => False
def PostA (w : Wd) (W : WX) (ρ : Loc) (σ : St) (Q : List V → Hp → Prop) (g : G) (H : Hp) (t : R (List RV)) : Prop := match t with
  | .ok rs S' => ∀ vs H', (∃ m', StepE g.m H m' H' ∧ Rel w (g.at m') ρ S' σ H' ∧ Args w m' g.Z H' rs vs) → Q vs H'
  | .exc x S' => ∀ cls dd H', XOk w g H ρ σ x S' cls dd H' → W cls dd σ H'
  | .bad => False
theorem goodE {ρ : Loc} {σ : St} {Q : VK} : Good w W ρ σ R.exc R.bad (PostE w W ρ σ Q) where
  step := fun g H m1 H1 t s p => by
    cases t with
    | ok r S => exact fun v H' q => p v H' (q.trans s)
    | exc x S => exact fun cls dd H' q => p cls dd H' (q.trans s)
    | bad => exact p
  exc := fun _ _ _ _ p => p
  bad := fun _ _ p => p
theorem goodT {ρ : Loc} {σ : St} {Q : Bool → Hp → Prop} : Good w W ρ σ R.exc R.bad (PostT w W ρ σ Q) where
  step := fun g H m1 H1 t s p => by
    cases t with
    | ok r S => exact fun H' ⟨m', a, b⟩ => p H' ⟨m', s.trans a, b⟩
    | exc x S => exact fun cls dd H' q => p cls dd H' (q.trans s)
    | bad => exact p
  exc := fun _ _ _ _ p => p
  bad := fun _ _ p => p
theorem goodA {ρ : Loc} {σ : St} {Q : List V → Hp → Prop} : Good w W ρ σ R.exc R.bad (PostA w W ρ σ Q) where
  step := fun g H m1 H1 t s p => by
    cases t with
    | ok r S => exact fun vs H' ⟨m', a, b⟩ => p vs H' ⟨m', s.trans a, b⟩
    | exc x S => exact fun cls dd H' q => p cls dd H' (q.trans s)
    | bad => exact p
  exc := fun _ _ _ _ p => p
  bad := fun _ _ p => p
def rdE (w : Wd) (W : WX) (f : SE) : TE := fun σ H Q => ∃ g ρ S, Rel w g ρ S σ H ∧ PostE w W ρ σ Q g H (f ρ S)
def rdT (w : Wd) (W : WX) (f : ST) : TT := fun σ H Q => ∃ g ρ S, Rel w g ρ S σ H ∧ PostT w W ρ σ Q g H (f ρ S)
def rdA (w : Wd) (W : WX) (f : SA) : TA := fun σ H Q => ∃ g ρ S, Rel w g ρ S σ H ∧ PostA w W ρ σ Q g H (f ρ S)

section
variable {ρ : Loc} {σ : St} {T : Type} {ex : D → Store → T} {bd : T} {P : G → Hp → T → Prop} {g : G} {S : Store} {H : Hp}
/-- an expression ahead of the rest -/
theorem bindE {f : SE} {k : RV → Store → T} (rel : Rel w g ρ S σ H) (h : P g H ((f ρ S).go ex bd k)) (gd : Good w W ρ σ ex bd P) :
    rdE w W f σ H fun v H1 => ∃ r S1 m1, StepE g.m H m1 H1 ∧ Rel w (g.at m1) ρ S1 σ H1 ∧ Res w (g.at m1) H r S1 v H1 ∧ f ρ S = .ok r S1 ∧ P (g.at m1) H1 (k r S1) := by
  refine ⟨g, ρ, S, rel, ?_⟩
  cases e : f ρ S with
  | ok r S1 =>
    rw [e] at h
    exact fun v H1 ⟨m1, s, r', res⟩ => ⟨r, S1, m1, s, r', res, rfl, gd.step _ _ _ _ _ s h⟩
  | exc x S1 => rw [e] at h; exact gd.exc _ _ _ _ h
  | bad => rw [e] at h; exact gd.bad _ _ h
/-- .. what was wanted ahead is at hand -/
theorem bindE0 {f : SE} {k : RV → Store → T} (rel : Rel w g ρ S σ H) (h : P g H ((f ρ S).go ex bd k)) (gd : Good w W ρ σ ex bd P) :
    rdE w W f σ H fun v H1 => ∃ r S1 m1, StepE g.m H m1 H1 ∧ Rel w (g.at m1) ρ S1 σ H1 ∧ Res w (g.at m1) H r S1 v H1 ∧ P g H (k r S1) := by
  refine ⟨g, ρ, S, rel, ?_⟩
  cases e : f ρ S with
  | ok r S1 =>
    rw [e] at h
    exact fun v H1 ⟨m1, s, r', res⟩ => ⟨r, S1, m1, s, r', res, h⟩
  | exc x S1 => rw [e] at h; exact gd.exc _ _ _ _ h
  | bad => rw [e] at h; exact gd.bad _ _ h
theorem bindT {f : ST} {k : Bool → Store → T} (rel : Rel w g ρ S σ H) (h : P g H ((f ρ S).go ex bd k)) (gd : Good w W ρ σ ex bd P) :
    rdT w W f σ H fun b H1 => ∃ S1 m1, StepE g.m H m1 H1 ∧ Rel w (g.at m1) ρ S1 σ H1 ∧ f ρ S = .ok b S1 ∧ P (g.at m1) H1 (k b S1) := by
  refine ⟨g, ρ, S, rel, ?_⟩
  cases e : f ρ S with
  | ok r S1 =>
    rw [e] at h
    exact fun H1 ⟨m1, s, r'⟩ => ⟨S1, m1, s, r', rfl, gd.step _ _ _ _ _ s h⟩
  | exc x S1 => rw [e] at h; exact gd.exc _ _ _ _ h
  | bad => rw [e] at h; exact gd.bad _ _ h
theorem bindA {f : SA} {k : List RV → Store → T} (rel : Rel w g ρ S σ H) (h : P g H ((f ρ S).go ex bd k)) (gd : Good w W ρ σ ex bd P) :
    rdA w W f σ H fun vs H1 => ∃ rs S1 m1, StepE g.m H m1 H1 ∧ Rel w (g.at m1) ρ S1 σ H1 ∧ Args w m1 g.Z H1 rs vs ∧ f ρ S = .ok rs S1 ∧ P (g.at m1) H1 (k rs S1) := by
  refine ⟨g, ρ, S, rel, ?_⟩
  cases e : f ρ S with
  | ok r S1 =>
    rw [e] at h
    exact fun vs H1 ⟨m1, s, r', a⟩ => ⟨r, S1, m1, s, r', a, rfl, gd.step _ _ _ _ _ s h⟩
  | exc x S1 => rw [e] at h; exact gd.exc _ _ _ _ h
  | bad => rw [e] at h; exact gd.bad _ _ h
end

theorem rdE_imp {f : SE} {σ : St} {H : Hp} {Q Q' : VK} (h : rdE w W f σ H Q) (i : ∀ v H', Q v H' → Q' v H') : rdE w W f σ H Q' := by
  obtain ⟨g, ρ, S, r, h⟩ := h
  refine ⟨g, ρ, S, r, ?_⟩
  cases e : f ρ S with
  | ok r S' => rw [e] at h; exact fun v H' q => i v H' (h v H' q)
  | exc x S' => rw [e] at h; exact h
  | bad => rw [e] at h; exact h

theorem PE.imp {X : Cx} {e : Expr} {t t' : TE} (h : PE X e t) (i : ∀ σ H Q, t' σ H Q → t σ H Q) : PE X e t' := ⟨fun pins s σ H Q I q => h.run pins s σ H Q I (i _ _ _ q)⟩
theorem PT.imp {X : Cx} {e : Expr} {t t' : TT} (h : PT X e t) (i : ∀ σ H Q, t' σ H Q → t σ H Q) : PT X e t' := ⟨fun pins s σ H Q I q => h.run pins s σ H Q I (i _ _ _ q)⟩
theorem PW.imp {X : Cx} {e : Expr} {t t' : TT} (h : PW X e t) (i : ∀ σ H Q, t' σ H Q → t σ H Q) : PW X e t' := ⟨fun wh pins s σ H Q I q => h.run wh pins s σ H Q I (i _ _ _ q)⟩
theorem PA.imp {X : Cx} {e : List Expr} {t t' : TA} (h : PA X e t) (i : ∀ σ H Q, t' σ H Q → t σ H Q) : PA X e t' := ⟨fun pos pins s σ H Q I q => h.run pos pins s σ H Q I (i _ _ _ q)⟩
theorem PS.imp {X : Cx} {e : Stmt} {t t' : TS} (h : PS X e t) (i : ∀ D σ H, t' D σ H → t D σ H) : PS X e t' := ⟨fun pins s σ H D I q => h.run pins s σ H D I (i _ _ _ q)⟩
theorem PSs.imp {X : Cx} {e : List Stmt} {t t' : TS} (h : PSs X e t) (i : ∀ D σ H, t' D σ H → t D σ H) : PSs X e t' := ⟨fun pins s σ H D I q => h.run pins s σ H D I (i _ _ _ q)⟩

variable {X : Cx}
/-- a name -/
theorem e_var (i : Nat) {x : Str} {pos : Pos} (hN : X.N[i]? = some x) (hv : Vis X.env.scope x) (hd : (x == ("__debug__" : Str)) = false) (hcd : (x == ("__classdict__" : Str)) = false) : PE X (.Name x pos) (rdE w W (sVar i)) := by
  refine PE.imp (pe_var hN hv hd hcd) fun σ H Q ⟨g, ρ, S, rel, h⟩ => ?_
  unfold sVar at h
  cases e : ρ[i]? with
  | none => rw [e] at h; exact h.elim
  | some o =>
    cases o with
    | none => rw [e] at h; exact h.elim
    | some r =>
      obtain ⟨d, fl⟩ := r
      obtain ⟨v, hv, held⟩ := rel.loc i d fl e
      refine ⟨v, hv, ?_⟩
      rw [e] at h
      cases fl with
      | sh => exact h v H (.same rel held)
      | bor => exact h v H ⟨g.m, .refl _ _, rel, held⟩
      | mine => exact h.elim
      | own =>
        obtain ⟨a, rfl, b, z, n⟩ := held
        exact h (.ref a) H ⟨g.m, .refl _ _, rel, .inr ⟨a, rfl, b.box, n⟩⟩
theorem e_cst {d : D} {v : V} {e : Expr} (h : PE X e (tC v)) (r : ∀ m Z H, Rep w m Z H d v) : PE X e (rdE w W (sCst d)) :=
  PE.imp h fun σ H Q ⟨g, ρ, S, rel, h⟩ => h v H (.same rel (r _ _ _))
theorem e_int {i j pos} : PE X (.Constant (.int i) j pos) (rdE w W (sCst (.int i))) := e_cst pe_int fun _ _ _ => .int i
theorem e_bl {b j pos} : PE X (.Constant (.bool b) j pos) (rdE w W (sCst (.bl b))) := e_cst pe_bl fun _ _ _ => .bl b
theorem e_non {j pos} : PE X (.Constant .none j pos) (rdE w W (sCst .non)) := e_cst pe_non fun _ _ _ => .non
theorem e_str {x : String} {j pos} : PE X (.Constant (.str (Str.ofString x)) j pos) (rdE w W (sCst (.str x))) := e_cst pe_str fun _ _ _ => .str x

theorem a_nil : PA X [] (rdA w W sNil) := PA.imp pa_nil fun σ H Q ⟨g, ρ, S, rel, h⟩ => h [] H ⟨g.m, .refl _ _, rel, .nil⟩
theorem rdA_imp {f : SA} {σ : St} {H : Hp} {Q Q' : List V → Hp → Prop} (h : rdA w W f σ H Q) (i : ∀ v H', Q v H' → Q' v H') : rdA w W f σ H Q' := by
  obtain ⟨g, ρ, S, r, h⟩ := h
  refine ⟨g, ρ, S, r, ?_⟩
  cases e : f ρ S with
  | ok r S' => rw [e] at h; exact fun v H' q => i v H' (h v H' q)
  | exc x S' => rw [e] at h; exact h
  | bad => rw [e] at h; exact h
theorem rdT_imp {f : ST} {σ : St} {H : Hp} {Q Q' : Bool → Hp → Prop} (h : rdT w W f σ H Q) (i : ∀ v H', Q v H' → Q' v H') : rdT w W f σ H Q' := by
  obtain ⟨g, ρ, S, r, h⟩ := h
  refine ⟨g, ρ, S, r, ?_⟩
  cases e : f ρ S with
  | ok r S' => rw [e] at h; exact fun H' q => i r H' (h H' q)
  | exc x S' => rw [e] at h; exact h
  | bad => rw [e] at h; exact h
theorem a_cons {e : Expr} {es : List Expr} {f : SE} {fs : SA} (hs : starEach (e :: es) X.env = (false, eval e X.env) :: starEach es X.env) (ha : PE X e (rdE w W f)) (hr : PA X es (rdA w W fs)) : PA X (e :: es) (rdA w W (sCons f fs)) := by
  refine PA.imp (pa_cons ha hr hs) fun σ H Q ⟨g, ρ, S, rel, h⟩ => ?_
  refine rdE_imp (bindE rel h goodA) fun v H1 ⟨r, S1, m1, s1, rel1, res1, _, h1⟩ => ?_
  refine rdA_imp (bindA rel1 h1 goodA) fun vs H2 ⟨rs, S3, m3, s3, rel3, as, _, h3⟩ => ?_
  exact h3 (v :: vs) H2 ⟨m3, .refl _ _, rel3, .cons (s3.arg res1.arg) as⟩
theorem e_tup {es : List Expr} {fs : SA} {k : Nat} {pos : Pos} (h : PA X es (rdA w W fs)) : PE X (.Tuple es k pos) (rdE w W (sTup fs)) := by
  refine PE.imp (pe_tup h) fun σ H Q ⟨g, ρ, S, rel, h⟩ => ?_
  refine rdA_imp (bindA rel h goodE) fun vs H1 ⟨rs, S1, m1, s1, rel1, as, _, h1⟩ => ?_
  split at h1
  · rename_i c
    exact ⟨by rw [← as.length]; exact c.2, fun p hp => h1 _ _ (ROk.tup rel1 (as.reps c.1) hp)⟩
  · exact h1.elim
theorem e_lst {es : List Expr} {fs : SA} {pos : Pos} (h : PA X es (rdA w W fs)) : PE X (.List es pos) (rdE w W (sLst fs)) := by
  refine PE.imp (pe_lst h) fun σ H Q ⟨g, ρ, S, rel, h⟩ => ?_
  refine rdA_imp (bindA rel h goodE) fun vs H1 ⟨rs, S1, m1, s1, rel1, as, _, h1⟩ => ?_
  split at h1
  · rename_i c
    exact ⟨by rw [← as.length]; exact c.2, fun p hp => h1 _ _ (ROk.lst rel1 (as.reps c.1) hp)⟩
  · exact h1.elim

/-! ### operators by values -/
/-- the contents of an object with a name of its own; else the value itself -/
def view (S : Store) : D → D
  | .obj n => S.getD n (.obj n)
  | d => d
/-- .. to be looked at, wherever the box stands -/
def Look (w : Wd) (m : List Addr) (Z : Addr → Prop) (H : Hp) (d : D) (v : V) : Prop := Rep w m Z H d v ∨ ∃ a, v = .ref a ∧ Box w m Z H d a
theorem Read.look {m : List Addr} {Z : Addr → Prop} {H : Hp} {d : D} {v : V} (h : Read w m Z H d v) : Look w m Z H d v := h.imp id fun ⟨a, e, b, _⟩ => ⟨a, e, b⟩
theorem look_view {g : G} {ρ : Loc} {S : Store} {σ : St} {H : Hp} {r : RV} {v : V} (rel : Rel w g ρ S σ H) (h : Arg w g.m g.Z H r v) : Look w g.m g.Z H (view S r.1) v := by
  have l := h.read.look
  obtain ⟨d, fl⟩ := r
  show Look w g.m g.Z H (view S d) v
  cases d with
  | obj n =>
    have e : ∃ a, v = .ref a ∧ g.m[n]? = some a := by
      rcases l with l | ⟨a, e, b⟩
      · cases l with
        | box b => cases b
        | obj hq => exact ⟨_, rfl, hq⟩
      · cases b
    obtain ⟨a, rfl, ha⟩ := e
    have hn : n < S.length := by rw [rel.sto.len]; exact (List.getElem?_eq_some_iff.mp ha).1
    obtain ⟨a', q, b⟩ := rel.sto.at_ n S[n] (by simp [hn])
    rw [ha] at q
    cases q
    refine .inr ⟨a, rfl, ?_⟩
    show Box w g.m g.Z H (S.getD n (.obj n)) a
    rw [List.getD_eq_getElem?_getD, List.getElem?_eq_getElem hn]
    exact b.box
  | _ => exact l
theorem Look.rep {m : List Addr} {Z : Addr → Prop} {H : Hp} {d : D} {v : V} (h : Look w m Z H d v) (n : box d = false) : Rep w m Z H d v := by
  rcases h with h | ⟨a, _, h⟩
  · exact h
  · rw [h.isBox] at n; cases n
theorem Look.int {m : List Addr} {Z : Addr → Prop} {H : Hp} {i : Int} {v : V} (h : Look w m Z H (.int i) v) : v = .int i := by
  cases h.rep rfl with
  | int => rfl
  | box b => cases b
theorem Look.str {m : List Addr} {Z : Addr → Prop} {H : Hp} {x : String} {v : V} (h : Look w m Z H (.str x) v) : v = .str (s2 x) := by
  cases h.rep rfl with
  | str => rfl
  | box b => cases b
theorem Look.bl {m : List Addr} {Z : Addr → Prop} {H : Hp} {b : Bool} {v : V} (h : Look w m Z H (.bl b) v) : v = .bl b := by
  cases h.rep rfl with
  | bl => rfl
  | box b => cases b
theorem Look.non {m : List Addr} {Z : Addr → Prop} {H : Hp} {v : V} (h : Look w m Z H .non v) : v = .non := by
  cases h.rep rfl with
  | non => rfl
  | box b => cases b
theorem KTup.sq {K : PySem.W.Frag} {H : Hp} {a : Addr} {xs : List V} (h : KTup K a xs) : SqT K H a xs := .inr h
theorem KLst.sq {K : PySem.W.Frag} {H : Hp} {a : Addr} {xs : List V} (h : KLst K a xs) : SqL K H a xs := .inr h
theorem Look.tup {m : List Addr} {Z : Addr → Prop} {H : Hp} {ds : List D} {v : V} (h : Look w m Z H (.tup ds) v) : ∃ a vs, v = .ref a ∧ SqT w.K H a vs ∧ Reps w m Z H ds vs := by
  cases h.rep rfl with
  | tup hq r => exact ⟨_, _, rfl, .of hq, r⟩
  | gtup hq r _ => exact ⟨_, _, rfl, hq.sq, r⟩
  | box b => cases b
theorem Look.lst {m : List Addr} {Z : Addr → Prop} {H : Hp} {ds : List D} {v : V} (h : Look w m Z H (.lst ds) v) : ∃ a vs, v = .ref a ∧ H a = some (.lst vs) ∧ Reps w m Z H ds vs := by
  rcases h with h | ⟨a, e, b⟩
  · cases h with
    | box b => cases b with | lst hq r => exact ⟨_, _, rfl, hq, r⟩
  · cases b with | lst hq r => exact ⟨_, _, e, hq, r⟩
theorem Look.frl {m : List Addr} {Z : Addr → Prop} {H : Hp} {ds : List D} {v : V} (h : Look w m Z H (.frl ds) v) : ∃ a vs, v = .ref a ∧ SqL w.K H a vs ∧ Reps w m Z H ds vs := by
  cases h.rep rfl with
  | frl hq r => exact ⟨_, _, rfl, .inl (.inr ⟨_, hq⟩), r⟩
  | gfrl hq r => exact ⟨_, _, rfl, hq.sq, r⟩
  | box b => cases b

/-- a value operation: the store stays; new things may come -/
def OkOp2 (w : Wd) (r : R2) (op : RV → RV → Store → Option RV) : Prop := ∀ (g : G) (ρ : Loc) (S : Store) (σ : St) (H : Hp) (a b : RV) (x y : V) (q : RV) (Q : VK), Rel w g ρ S σ H → Arg w g.m g.Z H a x → Arg w g.m g.Z H b y →
  op a b S = some q → (∀ v H', ROk w g H ρ σ q S v H' → Q v H') → r x y H Q
def OkOp1 (w : Wd) (r : V → Hp → VK → Prop) (op : RV → Store → Option RV) : Prop := ∀ (g : G) (ρ : Loc) (S : Store) (σ : St) (H : Hp) (a : RV) (x : V) (q : RV) (Q : VK), Rel w g ρ S σ H → Arg w g.m g.Z H a x →
  op a S = some q → (∀ v H', ROk w g H ρ σ q S v H' → Q v H') → r x H Q
def OkOpN (w : Wd) (r : List V → Hp → VK → Prop) (op : List RV → Store → Option RV) : Prop := ∀ (g : G) (ρ : Loc) (S : Store) (σ : St) (H : Hp) (as : List RV) (xs : List V) (q : RV) (Q : VK), Rel w g ρ S σ H → Args w g.m g.Z H as xs →
  op as S = some q → (∀ v H', ROk w g H ρ σ q S v H' → Q v H') → r xs H Q
def opt (o : Option RV) (S : Store) : R RV := match o with
  | some q => .ok q S
  | none => .bad
def sOp1 (op : RV → Store → Option RV) (f : SE) : SE := fun ρ S => (f ρ S).bind fun r S1 => opt (op r S1) S1
def sOp2 (op : RV → RV → Store → Option RV) (f g : SE) : SE := fun ρ S => (f ρ S).bind fun r S1 => (g ρ S1).bind fun q S2 => opt (op r q S2) S2
def sOpN (op : List RV → Store → Option RV) (fs : SA) : SE := fun ρ S => (fs ρ S).bind fun rs S1 => opt (op rs S1) S1
theorem post_opt {ρ : Loc} {σ : St} {Q : VK} {g : G} {H : Hp} {o : Option RV} {S : Store} (h : PostE w W ρ σ Q g H (opt o S)) : ∃ q, o = some q ∧ ∀ v H', ROk w g H ρ σ q S v H' → Q v H' := by
  cases o with
  | none => exact h.elim
  | some q => exact ⟨q, rfl, h⟩
theorem rd_op2 {r : R2} {op : RV → RV → Store → Option RV} (ok : OkOp2 w r op) {fa fb : SE} {σ : St} {H : Hp} {Q : VK} (h : rdE w W (sOp2 op fa fb) σ H Q) : tOp r (rdE w W fa) (rdE w W fb) σ H Q := by
  obtain ⟨g, ρ, S, rel, h⟩ := h
  refine rdE_imp (bindE rel h goodE) fun v H1 ⟨r1, S1, m1, s1, rel1, res1, _, h1⟩ => ?_
  refine rdE_imp (bindE rel1 h1 goodE) fun u H2 ⟨r2, S2, m2, s2, rel2, res2, _, h2⟩ => ?_
  obtain ⟨q, e, h3⟩ := post_opt h2
  exact ok (g.at m2) ρ S2 σ H2 r1 r2 v u q Q rel2 (s2.arg res1.arg) res2.arg e h3
theorem e_op2 {op : Operator} {r : R2} {f : RV → RV → Store → Option RV} (ok : OkOp2 w r f) (ho : OpR X (binaryOp op) r) {a b : Expr} {fa fb : SE} {pos : Pos} (ha : PE X a (rdE w W fa)) (hb : PE X b (rdE w W fb)) : PE X (.BinOp a op b pos) (rdE w W (sOp2 f fa fb)) :=
  PE.imp (pe_op ho ha hb) fun _ _ _ h => rd_op2 ok h
theorem e_cmp {op : CmpOp} {r : R2} {f : RV → RV → Store → Option RV} (ok : OkOp2 w r f) (ho : OpR X (compareOp op) r) {a b : Expr} {fa fb : SE} {pos : Pos} (hm : behindInMarks op b = false) (ha : PE X a (rdE w W fa)) (hb : PE X b (rdE w W fb)) : PE X (.Compare a [op] [b] pos) (rdE w W (sOp2 f fa fb)) :=
  PE.imp (pe_cmpR ho ha hb hm) fun _ _ _ h => rd_op2 ok h
theorem rdT_sT {f : SE} {σ : St} {H : Hp} {Q : Bool → Hp → Prop} (h : rdT w W (sT f) σ H Q) : rdE w W f σ H fun x H' => ∃ k, x = .bl k ∧ Q k H' := by
  obtain ⟨g, ρ, S, rel, h⟩ := h
  refine rdE_imp (bindE rel h goodT) fun v H1 ⟨r1, S1, m1, s1, rel1, res1, _, h1⟩ => ?_
  obtain ⟨d, fl⟩ := r1
  cases d with
  | bl b =>
    have l : Look w m1 g.Z H1 (.bl b) v := res1.arg.read.look
    exact ⟨b, l.bl, h1 H1 ⟨m1, .refl _ _, rel1⟩⟩
  | _ => exact h1.elim
theorem t_cmp {op : CmpOp} {r : R2} {f : RV → RV → Store → Option RV} (ok : OkOp2 w r f) (ho : OpR X (compareOp op) r) {a b : Expr} {fa fb : SE} {pos : Pos} (hm : behindInMarks op b = false) (ha : PE X a (rdE w W fa)) (hb : PE X b (rdE w W fb)) : PT X (.Compare a [op] [b] pos) (rdT w W (sT (sOp2 f fa fb))) :=
  PT.imp (pt_cmpR ho ha hb hm) fun _ _ _ h => rd_op2 ok (rdT_sT h)
/-- any other expression whose value is True or False -/
theorem t_val {e : Expr} {f : SE} (he : ∀ whole, isTrue e X.env whole = (do let v ← whole; standAt e.pos; holding [v] (truthy v))) (h : PE X e (rdE w W f)) : PT X e (rdT w W (sT f)) :=
  PT.imp (pt_val h he) fun _ _ _ h => rdT_sT h
end
end DL

set_option maxRecDepth 100000
/-! The value layer: data and its equality; operators. -/
namespace DL
open PySem L2

/-! ### plain data -/
mutual
def py : D → PyData
  | .bl b => .bool b
  | .int i => .int i
  | .str x => .str (s2 x)
  | .tup ds => .tuple (pys ds)
  | .lst ds => .list (pys ds)
  | _ => .none
def pys : List D → List PyData
  | [] => []
  | d :: ds => py d :: pys ds
end
mutual
def plain : D → Bool
  | .non => true
  | .bl _ => true
  | .int _ => true
  | .str _ => true
  | .tup ds => plains ds
  | .lst ds => plains ds
  | _ => false
def plains : List D → Bool
  | [] => true
  | d :: ds => plain d && plains ds
end
mutual
def dep : D → Nat
  | .tup ds => deps ds + 1
  | .lst ds => deps ds + 1
  | _ => 0
def deps : List D → Nat
  | [] => 0
  | d :: ds => max (dep d) (deps ds)
end
mutual
def deq : D → D → Bool
  | .non, .non => true
  | .bl a, .bl b => a == b
  | .bl a, .int j => (if a then 1 else 0) == j
  | .int i, .bl b => i == (if b then 1 else 0)
  | .int i, .int j => i == j
  | .str x, .str y => x == y
  | .tup xs, .tup ys => deqs xs ys
  | .lst xs, .lst ys => deqs xs ys
  | _, _ => false
def deqs : List D → List D → Bool
  | [], [] => true
  | x :: xs, y :: ys => deq x y && deqs xs ys
  | _, _ => false
end
theorem pys_map : ∀ ds : List D, pys ds = ds.map py
  | [] => rfl
  | _ :: ds => congrArg _ (pys_map ds)
theorem plains_all : ∀ ds : List D, plains ds = ds.all plain
  | [] => rfl
  | d :: ds => by rw [plains, List.all_cons, plains_all ds]
theorem s2_ok (x : String) : PyData.strOk (s2 x) = true := by
  unfold PyData.strOk
  rw [s2_cps]
  simp only [List.all_toArray, List.all_map, List.all_eq_true, Function.comp, decide_eq_true_eq]
  intro c _
  have := c.valid
  rcases this with h | h
  · exact Nat.lt_trans (show c.val.toNat < 0xd800 from h) (by decide)
  · exact h.2
mutual
theorem py_lay : ∀ d : D, (py d).canLay0 = true
  | .non => rfl
  | .bl _ => rfl
  | .int _ => rfl
  | .str x => by simp only [py, PyData.canLay0]; exact s2_ok x
  | .tup ds => by simp only [py, PyData.canLay0]; exact pys_lay ds
  | .lst ds => by simp only [py, PyData.canLay0]; exact pys_lay ds
  | .dk _ => rfl
  | .dt _ => rfl
  | .ins _ _ => rfl
  | .exc _ _ => rfl
  | .obj _ => rfl
  | .frl _ => rfl
  | .ftp _ => rfl
theorem pys_lay : ∀ ds : List D, PyData.canLayAll0 (pys ds) = true
  | [] => rfl
  | d :: ds => by simp only [pys, PyData.canLayAll0, py_lay d, pys_lay ds, Bool.and_self]
end
mutual
theorem py_dep : ∀ d : D, (py d).depth = dep d
  | .non => rfl
  | .bl _ => rfl
  | .int _ => rfl
  | .str x => rfl
  | .tup ds => by simp only [py, PyData.depth, dep, pys_dep ds]
  | .lst ds => by simp only [py, PyData.depth, dep, pys_dep ds]
  | .dk _ => rfl
  | .dt _ => rfl
  | .ins _ _ => rfl
  | .exc _ _ => rfl
  | .obj _ => rfl
  | .frl _ => rfl
  | .ftp _ => rfl
theorem pys_dep : ∀ ds : List D, PyData.depthAll (pys ds) = deps ds
  | [] => rfl
  | d :: ds => by simp only [pys, PyData.depthAll, deps, py_dep d, pys_dep ds]
end
theorem s2_beq (x y : String) : (s2 x == s2 y) = (x == y) := by
  by_cases h : x = y
  · subst h; simp
  · rw [beq_eq_false_iff_ne.mpr h, beq_eq_false_iff_ne.mpr fun q => h (s2_inj q)]
mutual
theorem py_eqv : ∀ d e : D, plain d = true → plain e = true → PyData.eqv (py d) (py e) = deq d e
  | .non, e, _, h => by cases e <;> first | rfl | cases h
  | .bl b, e, _, h => by cases e <;> first | rfl | cases h
  | .int i, e, _, h => by cases e <;> first | rfl | cases h
  | .str x, e, _, h => by cases e <;> first | rfl | (simp only [py, PyData.eqv, deq]; exact s2_beq _ _) | cases h
  | .tup ds, e, g, h => by
    cases e <;> first | rfl | cases h | skip
    rename_i es
    simp only [py, PyData.eqv, deq]
    exact pys_eqv ds es (by simpa [plain] using g) (by simpa [plain] using h)
  | .lst ds, e, g, h => by
    cases e <;> first | rfl | cases h | skip
    rename_i es
    simp only [py, PyData.eqv, deq]
    exact pys_eqv ds es (by simpa [plain] using g) (by simpa [plain] using h)
  | .dk _, _, g, _ => by cases g
  | .dt _, _, g, _ => by cases g
  | .ins _ _, _, g, _ => by cases g
  | .exc _ _, _, g, _ => by cases g
  | .obj _, _, g, _ => by cases g
  | .frl _, _, g, _ => by cases g
  | .ftp _, _, g, _ => by cases g
theorem pys_eqv : ∀ ds es : List D, plains ds = true → plains es = true → PyData.eqvAll (pys ds) (pys es) = deqs ds es
  | [], [], _, _ => rfl
  | [], _ :: _, _, _ => rfl
  | _ :: _, [], _, _ => rfl
  | d :: ds, e :: es, g, h => by
    rw [plains, Bool.and_eq_true] at g h
    simp only [pys, PyData.eqvAll, deqs, py_eqv d e g.1 h.1, pys_eqv ds es g.2 h.2]
end
mutual
theorem deq_refl : ∀ d : D, plain d = true → deq d d = true
  | .non, _ => rfl
  | .bl b, _ => by simp [deq]
  | .int i, _ => by simp [deq]
  | .str x, _ => by simp [deq]
  | .tup ds, h => by rw [deq]; exact deqs_refl ds (by simpa [plain] using h)
  | .lst ds, h => by rw [deq]; exact deqs_refl ds (by simpa [plain] using h)
  | .dk _, g => by cases g
  | .dt _, g => by cases g
  | .ins _ _, g => by cases g
  | .exc _ _, g => by cases g
  | .obj _, g => by cases g
  | .frl _, g => by cases g
  | .ftp _, g => by cases g
theorem deqs_refl : ∀ ds : List D, plains ds = true → deqs ds ds = true
  | [], _ => rfl
  | d :: ds, h => by
    rw [plains, Bool.and_eq_true] at h
    rw [deqs, deq_refl d h.1, deqs_refl ds h.2]; rfl
end
section
variable {w : Wd} {m : List Addr} {Z : Addr → Prop} {H : Hp}
mutual
theorem Rep.dp : ∀ {d : D} {v : V}, Rep w m Z H d v → plain d = true → Dp w.K H v (py d)
  | _, _, .non, _ => .non
  | _, _, .bl b, _ => .bl b
  | _, _, .int i, _ => .int i
  | _, _, .str x, _ => .str _
  | _, _, .tup h r, p => .tup (.of h) (Reps.dp r (by simpa [plain] using p))
  | _, _, .gtup h r _, p => .tup h.sq (Reps.dp r (by simpa [plain] using p))
  | _, _, .frl _ _, p => by cases p
  | _, _, .ftp _ _ _, p => by cases p
  | _, _, .gfrl _ _, p => by cases p
  | _, _, .box (.lst h r) _ _, p => .lst (.of h) (Reps.dp r (by simpa [plain] using p))
  | _, _, .box (.dk _ _) _ _, p => by cases p
  | _, _, .box (.dt _ _) _ _, p => by cases p
  | _, _, .box (.ins _ _) _ _, p => by cases p
  | _, _, .obj _, p => by cases p
  | _, _, .exc0 _, p => by cases p
  | _, _, .excF _ _ _, p => by cases p
theorem Reps.dp : ∀ {ds : List D} {vs : List V}, Reps w m Z H ds vs → plains ds = true → DpAll w.K H vs (pys ds)
  | _, _, .nil, _ => .nil
  | _, _, .cons h r, p => by
    rw [plains, Bool.and_eq_true] at p
    exact .cons (h.dp p.1) (Reps.dp r p.2)
end
theorem Look.dp {d : D} {v : V} (h : Look w m Z H d v) (p : plain d = true) : Dp w.K H v (py d) := by
  rcases h with h | ⟨a, rfl, b⟩
  · exact h.dp p
  · cases b with
    | lst h r => exact .lst (.of h) (r.dp (by simpa [plain] using p))
    | dk _ _ => cases p
    | dt _ _ => cases p
    | ins _ _ => cases p
end

/-! ### the context's room -/
structure CxR (X : Cx) : Prop where
  un : X.A.units + 200 < cLine
  calm : X.calm = true

theorem OpR.or {X : Cx} {f : Value → Value → Sem Value} {r r' : R2} (h : OpR X f r) (h' : OpR X f r') : OpR X f (fun x y H Q => r x y H Q ∨ r' x y H Q) :=
  fun pins s σ H x y v u Q I rx ry q => q.elim (h pins s σ H x y v u Q I rx ry) (h' pins s σ H x y v u Q I rx ry)

/-! ### equality, in -/
def rEqP (K : PySem.W.Frag) : R2 := fun x y H Q => ∃ d e, Dp K H x d ∧ Dp K H y e ∧ d.canLay0 = true ∧ e.canLay0 = true ∧ d.depth ≤ 190 ∧ Q (.bl (PyData.eqv d e)) H
def rNeP (K : PySem.W.Frag) : R2 := fun x y H Q => ∃ d e, Dp K H x d ∧ Dp K H y e ∧ d.canLay0 = true ∧ e.canLay0 = true ∧ d.depth ≤ 190 ∧ Q (.bl (!PyData.eqv d e)) H
theorem op_eqP {X : Cx} (c : CxR X) : OpR X (compareOp .Eq) (rEqP X.K) := by
  intro pins s σ H x y v u Q I rx ry ⟨d, e, hd, he, ld, le, dd, q⟩
  obtain ⟨as, r1⟩ := Dp.reads I d x v hd rx
  obtain ⟨bs, r2⟩ := Dp.reads I e y u he ry
  exact SeqAt.compareEq_reads r1 r2 ld le (by have := c.un; have : min d.depth e.depth ≤ d.depth := Nat.min_le_left _ _; omega) ⟨.bl _, H, I, rfl, q⟩
theorem op_neP {X : Cx} (c : CxR X) : OpR X (compareOp .NotEq) (rNeP X.K) := by
  intro pins s σ H x y v u Q I rx ry ⟨d, e, hd, he, ld, le, dd, q⟩
  obtain ⟨as, r1⟩ := Dp.reads I d x v hd rx
  obtain ⟨bs, r2⟩ := Dp.reads I e y u he ry
  exact SeqAt.compareNe_reads r1 r2 ld le (by have := c.un; have : min d.depth e.depth ≤ d.depth := Nat.min_le_left _ _; omega) ⟨.bl _, H, I, rfl, q⟩
def oEq (a b : RV) (S : Store) : Option RV := if plain (view S a.1) = true ∧ plain (view S b.1) = true ∧ dep (view S a.1) ≤ 190 then some (.bl (deq (view S a.1) (view S b.1)), .sh) else none
def oNe (a b : RV) (S : Store) : Option RV := if plain (view S a.1) = true ∧ plain (view S b.1) = true ∧ dep (view S a.1) ≤ 190 then some (.bl (!deq (view S a.1) (view S b.1)), .sh) else none
theorem ok_eq {w : Wd} : OkOp2 w (rEqP w.K) oEq := by
  intro g ρ S σ H a b x y q Q rel ha hb e h
  unfold oEq at e
  split at e
  · rename_i c
    cases e
    refine ⟨_, _, (look_view rel ha).dp c.1, (look_view rel hb).dp c.2.1, py_lay _, py_lay _, by rw [py_dep]; exact c.2.2, ?_⟩
    rw [py_eqv _ _ c.1 c.2.1]
    exact h _ _ (.same rel (.bl _))
  · cases e
theorem ok_ne {w : Wd} : OkOp2 w (rNeP w.K) oNe := by
  intro g ρ S σ H a b x y q Q rel ha hb e h
  unfold oNe at e
  split at e
  · rename_i c
    cases e
    refine ⟨_, _, (look_view rel ha).dp c.1, (look_view rel hb).dp c.2.1, py_lay _, py_lay _, by rw [py_dep]; exact c.2.2, ?_⟩
    rw [py_eqv _ _ c.1 c.2.1]
    exact h _ _ (.same rel (.bl _))
  · cases e
end DL

set_option maxRecDepth 100000
/-! The value layer: arithmetic, order, in, is. -/
namespace DL
open PySem L2

section
variable {X : Cx} {w : Wd}
theorem Arg.lk {g : G} {ρ : Loc} {S : Store} {σ : St} {H : Hp} {r : RV} {v : V} (h : Arg w g.m g.Z H r v) (rel : Rel w g ρ S σ H) {d : D} (e : view S r.1 = d) : Look w g.m g.Z H d v := e ▸ look_view rel h
/-! ### + - * // % ** -/
def rAddA (K : PySem.W.Frag) : R2 := fun x y H Q => rI0 (fun i j => .int (i + j)) x y H Q ∨ (∃ i j, x = .str i ∧ y = .str j ∧ i.length + j.length ≤ sizeLine ∧ Q (.str (i ++ j)) H) ∨ rCatA K x y H Q ∨ rCat x y H Q
theorem op_addA : OpR X (binaryOp .Add) (rAddA X.K) := op_add.or (op_add_str.or (op_catA.or op_cat))
def oAdd (a b : RV) (S : Store) : Option RV := match view S a.1, view S b.1 with
  | .int i, .int j => some (.int (i + j), .sh)
  | .str x, .str y => if x.length + y.length ≤ sizeLine then some (.str (x ++ y), .sh) else none
  | .tup xs, .tup ys => if xs.length + ys.length ≤ sizeLine then some (.tup (xs ++ ys), .sh) else none
  | .lst xs, .lst ys => if xs.length + ys.length ≤ sizeLine then some (.lst (xs ++ ys), .own) else none
  | _, _ => none
theorem ok_add : OkOp2 w (rAddA w.K) oAdd := by
  intro g ρ S σ H a b x y q Q rel ha hb e h
  unfold oAdd at e
  split at e
  · rename_i i j ea eb
    cases e
    exact .inl ⟨i, j, (ha.lk rel ea).int, (hb.lk rel eb).int, h _ _ (.same rel (.int _))⟩
  · rename_i i j ea eb
    split at e
    · rename_i c
      cases e
      refine .inr (.inl ⟨_, _, (ha.lk rel ea).str, (hb.lk rel eb).str, by rw [s2_len, s2_len]; exact c, ?_⟩)
      rw [s2_app]
      exact h _ _ (.same rel (.str _))
    · cases e
  · rename_i i j ea eb
    split at e
    · rename_i c
      cases e
      obtain ⟨p, vs, rfl, hp, rp⟩ := (ha.lk rel ea).tup
      obtain ⟨q, us, rfl, hq, rq⟩ := (hb.lk rel eb).tup
      refine .inr (.inr (.inl ⟨p, q, vs, us, rfl, rfl, hp, hq, by rw [← rp.length, ← rq.length]; exact c, fun e1 => ?_, fun e1 e2 => ?_, fun e1 e2 t ht => ?_⟩))
      · subst e1
        cases rp
        exact h _ _ (.same rel ((hb.lk rel eb).rep rfl))
      · subst e2
        cases rq
        rw [List.append_nil] at h
        exact h _ _ (.same rel ((ha.lk rel ea).rep rfl))
      · exact h _ _ (.tup rel (rp.app rq) ht)
    · cases e
  · rename_i i j ea eb
    split at e
    · rename_i c
      cases e
      obtain ⟨p, vs, rfl, hp, rp⟩ := (ha.lk rel ea).lst
      obtain ⟨q, us, rfl, hq, rq⟩ := (hb.lk rel eb).lst
      refine .inr (.inr (.inr ⟨p, q, vs, us, rfl, rfl, hp, hq, by rw [← rp.length, ← rq.length]; exact c, fun t ht => ?_⟩))
      exact h _ _ (.lst rel (rp.app rq) ht)
    · cases e
  · cases e
/-- two whole numbers -/
def oII (C : Int → Int → Prop) [∀ i j, Decidable (C i j)] (f : Int → Int → Int) (a b : RV) (S : Store) : Option RV := match view S a.1, view S b.1 with
  | .int i, .int j => if C i j then some (.int (f i j), .sh) else none
  | _, _ => none
theorem ok_II {C : Int → Int → Prop} [∀ i j, Decidable (C i j)] {f : Int → Int → Int} : OkOp2 w (rI C fun i j => .int (f i j)) (oII C f) := by
  intro g ρ S σ H a b x y q Q rel ha hb e h
  unfold oII at e
  split at e
  · rename_i i j ea eb
    split at e
    · rename_i c
      cases e
      exact ⟨i, j, (ha.lk rel ea).int, (hb.lk rel eb).int, c, h _ _ (.same rel (.int _))⟩
    · cases e
  · cases e
abbrev CSub (_ _ : Int) : Prop := True
theorem op_subC : OpR X (binaryOp .Sub) (rI CSub fun i j => .int (i - j)) := opI fun _ _ _ _ _ _ _ _ q => PyProof.Rows.sub_int q
abbrev CFdv (_ j : Int) : Prop := 0 < j ∧ j.natAbs.log2 < 9000
theorem op_fdivC : OpR X (binaryOp .FloorDiv) (rI CFdv fun i j => .int (i / j)) := op_fdivW
abbrev CMd (_ j : Int) : Prop := 0 < j
theorem op_modC : OpR X (binaryOp .Mod) (rI CMd fun i j => .int (i % j)) := op_mod
abbrev CPw (i j : Int) : Prop := 0 ≤ j ∧ (Builtin.Int.intBits i : Int) * j ≤ 2 ^ 27
theorem op_powC : OpR X (binaryOp .Pow) (rI CPw fun i j => .int (i ^ j.toNat)) := opI fun _ _ _ _ _ _ _ hc q => PyProof.Rows.pow_int hc.1 hc.2 q
abbrev CMu (i j : Int) : Prop := i.natAbs.log2 + j.natAbs.log2 < 1000000
abbrev oSub := oII CSub (· - ·)
abbrev oFdiv := oII CFdv (· / ·)
abbrev oMod := oII CMd (· % ·)
abbrev oPow := oII CPw (fun i j => i ^ j.toNat)
/-- numbers; a list so many times; a tuple so many times -/
def rRepA (K : PySem.W.Frag) : R2 := fun x y H Q => ∃ l k xs, x = .ref l ∧ y = .int k ∧ SqT K H l xs ∧ 0 ≤ k ∧ k ≤ 100000 ∧ xs.length * k.toNat ≤ 1000000 ∧ ((k = 1 ∨ xs = []) → Q (.ref l) H) ∧
  (k ≠ 1 → xs ≠ [] → ∀ p, H p = none → Q (.ref p) (upd H p (.tup (List.replicate k.toNat xs).flatten)))
def oMul (a b : RV) (S : Store) : Option RV := match view S a.1, view S b.1 with
  | .int i, .int j => if CMu i j then some (.int (i * j), .sh) else none
  | .lst xs, .int k => if -(2 ^ 63) ≤ k ∧ k < 2 ^ 63 ∧ xs.length * k.toNat ≤ sizeLine then some (.lst (List.replicate k.toNat xs).flatten, .own) else none
  | .tup xs, .int k => if 0 ≤ k ∧ k ≤ 100000 ∧ xs.length * k.toNat ≤ 1000000 then some (.tup (List.replicate k.toNat xs).flatten, .sh) else none
  | _, _ => none
def rMulA (K : PySem.W.Frag) : R2 := fun x y H Q => rI CMu (fun i j => .int (i * j)) x y H Q ∨ rRep x y H Q ∨ rRepA K x y H Q
theorem flat_one {α : Type} (xs : List α) : (List.replicate 1 xs).flatten = xs := by simp
theorem flat_nil {α : Type} (n : Nat) : (List.replicate n ([] : List α)).flatten = [] := by simp
theorem ok_mul : OkOp2 w (rMulA w.K) oMul := by
  intro g ρ S σ H a b x y q Q rel ha hb e h
  unfold oMul at e
  split at e
  · rename_i i j ea eb
    split at e
    · rename_i c
      cases e
      exact .inl ⟨i, j, (ha.lk rel ea).int, (hb.lk rel eb).int, c, h _ _ (.same rel (.int _))⟩
    · cases e
  · rename_i xs k ea eb
    split at e
    · rename_i c
      cases e
      obtain ⟨p, vs, rfl, hp, rp⟩ := (ha.lk rel ea).lst
      refine .inr (.inl ⟨p, k, vs, rfl, (hb.lk rel eb).int, hp, c.1, c.2.1, by rw [← rp.length]; exact c.2.2, fun t ht => ?_⟩)
      exact h _ _ (.lst rel (rp.rep _) ht)
    · cases e
  · rename_i xs k ea eb
    split at e
    · rename_i c
      cases e
      obtain ⟨p, vs, rfl, hp, rp⟩ := (ha.lk rel ea).tup
      refine .inr (.inr ⟨p, k, vs, rfl, (hb.lk rel eb).int, hp, c.1, c.2.1, by rw [← rp.length]; exact c.2.2, fun h1 => ?_, fun h1 h2 t ht => ?_⟩)
      · have e2 : (List.replicate k.toNat xs).flatten = xs := by
          rcases h1 with rfl | rfl
          · exact flat_one xs
          · cases rp; exact flat_nil _
        rw [e2] at h
        exact h _ _ (.same rel ((ha.lk rel ea).rep rfl))
      · exact h _ _ (.tup rel (rp.rep _) ht)
    · cases e
  · cases e
theorem un_negI : UnR X (unaryOp .USub) (rU fun i => .int (-i)) := un_neg
def oNeg (a : RV) (S : Store) : Option RV := match view S a.1 with
  | .int i => some (.int (-i), .sh)
  | _ => none
theorem ok_neg : OkOp1 w (rU fun i => .int (-i)) oNeg := by
  intro g ρ S σ H a x q Q rel ha e h
  unfold oNeg at e
  split at e
  · rename_i i ea
    cases e
    exact ⟨i, (ha.lk rel ea).int, h _ _ (.same rel (.int _))⟩
  · cases e
theorem rd_op1 {W : WX} {r : V → Hp → VK → Prop} {op : RV → Store → Option RV} (ok : OkOp1 w r op) {fa : SE} {σ : St} {H : Hp} {Q : VK} (h : rdE w W (sOp1 op fa) σ H Q) : tUn r (rdE w W fa) σ H Q := by
  obtain ⟨g, ρ, S, rel, h⟩ := h
  refine rdE_imp (bindE rel h goodE) fun v H1 ⟨r1, S1, m1, s1, rel1, res1, _, h1⟩ => ?_
  obtain ⟨q, e, h3⟩ := post_opt h1
  exact ok (g.at m1) ρ S1 σ H1 r1 v q Q rel1 res1.arg e h3
theorem e_un {W : WX} {op : UnaryOp} {r : V → Hp → VK → Prop} {f : RV → Store → Option RV} (ok : OkOp1 w r f) (ho : UnR X (unaryOp op) r) {a : Expr} {fa : SE} {pos : Pos} (ha : PE X a (rdE w W fa)) : PE X (.UnaryOp op a pos) (rdE w W (sOp1 f fa)) :=
  PE.imp (pe_un ho ha) fun _ _ _ h => rd_op1 ok h

/-! ### < <= > >= -/
/-- texts by their signs -/
def strLt (x y : String) : Bool := decide (x.toList.map Char.toNat < y.toList.map Char.toNat)
def oCmp (f : Int → Int → Bool) (a b : RV) (S : Store) : Option RV := match view S a.1, view S b.1 with
  | .int i, .int j => some (.bl (f i j), .sh)
  | _, _ => none
theorem ok_cmp {f : Int → Int → Bool} : OkOp2 w (rI0 fun i j => .bl (f i j)) (oCmp f) := by
  intro g ρ S σ H a b x y q Q rel ha hb e h
  unfold oCmp at e
  split at e
  · rename_i i j ea eb
    cases e
    exact ⟨i, j, (ha.lk rel ea).int, (hb.lk rel eb).int, h _ _ (.same rel (.bl _))⟩
  · cases e
abbrev oLe := oCmp fun i j => decide (i ≤ j)
abbrev oGt := oCmp fun i j => decide (j < i)
abbrev oGe := oCmp fun i j => decide (j ≤ i)
def oLt (a b : RV) (S : Store) : Option RV := match view S a.1, view S b.1 with
  | .int i, .int j => some (.bl (decide (i < j)), .sh)
  | .str x, .str y => some (.bl (strLt x y), .sh)
  | _, _ => none
def rLtA : R2 := fun x y H Q => rI0 (fun i j => .bl (decide (i < j))) x y H Q ∨ ∃ i j, x = .str i ∧ y = .str j ∧ Q (.bl (decide (i.cps.toList < j.cps.toList))) H
theorem op_ltA : OpR X (compareOp .Lt) rLtA := op_lt.or op_lt_str
theorem ok_lt : OkOp2 w rLtA oLt := by
  intro g ρ S σ H a b x y q Q rel ha hb e h
  unfold oLt at e
  split at e
  · rename_i i j ea eb
    cases e
    exact .inl ⟨i, j, (ha.lk rel ea).int, (hb.lk rel eb).int, h _ _ (.same rel (.bl _))⟩
  · rename_i i j ea eb
    cases e
    refine .inr ⟨_, _, (ha.lk rel ea).str, (hb.lk rel eb).str, ?_⟩
    have := h _ _ (.same rel (.bl _))
    unfold strLt at this
    rw [s2_cps, s2_cps]
    exact this
  · cases e

/-! ### is None -/
def isNonD : D → Bool
  | .non => true
  | _ => false
theorem rep_non {m : List Addr} {Z : Addr → Prop} {H : Hp} {d : D} {v : V} (h : Read w m Z H d v) : decide (v = .non) = isNonD d := by
  rcases h with h | ⟨a, rfl, b⟩
  · cases h <;> first | rfl | skip
    rename_i b
    cases b <;> rfl
  · cases b.1 <;> rfl
def oIsN (a b : RV) (_ : Store) : Option RV := match b.1 with
  | .non => some (.bl (isNonD a.1), .sh)
  | _ => none
def oIsNotN (a b : RV) (_ : Store) : Option RV := match b.1 with
  | .non => some (.bl (!isNonD a.1), .sh)
  | _ => none
theorem ok_isN : OkOp2 w (fun x y H Q => y = .non ∧ Q (.bl (decide (x = .non))) H) oIsN := by
  intro g ρ S σ H a b x y q Q rel ha hb e h
  unfold oIsN at e
  split at e
  · rename_i eb
    cases e
    have l := hb.read.look
    rw [eb] at l
    exact ⟨l.non, by rw [rep_non ha.read]; exact h _ _ (.same rel (.bl _))⟩
  · cases e
theorem ok_isNotN : OkOp2 w (fun x y H Q => y = .non ∧ Q (.bl (!decide (x = .non))) H) oIsNotN := by
  intro g ρ S σ H a b x y q Q rel ha hb e h
  unfold oIsNotN at e
  split at e
  · rename_i eb
    cases e
    have l := hb.read.look
    rw [eb] at l
    exact ⟨l.non, by rw [rep_non ha.read]; exact h _ _ (.same rel (.bl _))⟩
  · cases e
end
end DL

set_option maxRecDepth 100000
/-! The value layer: a tuple so many times. -/
namespace DL
open PySem L2 PySem.Spec PyProof.Rows
section
variable (l : Addr) (items : Array Value) (n : Nat) (dd : Option Addr) (sl : Array (Option Value)) (x : Int) (u : Tok)
theorem tup_mul_same (c0 : (decide (x < -(2 ^ 63)) || decide (x ≥ 2 ^ 63)) = false) (c1 : (items.isEmpty || x == 1) = true) :
    Meets (Builtin.«tuple.__mul__» ⟨[.ref l, .int x u], []⟩) (fun _ R s => s.heap.get? l = some { cls := .type "tuple", dict := dd, data := .seq items n, slots := sl } ∧ R (.ok (.ret (Value.ref l))) s) :=
  .of_wp fun prog w A R s q => by
    obtain ⟨hp, g, d, tk, os⟩ := s
    obtain ⟨hl, h⟩ := q
    have f1 := AutoSeq1.idx_int
    wp_walk using wpAny_loadPart' hl
    refine wpAny_ite_false (decide_eq_false (by rw [c0]; exact Bool.false_ne_true)) ?_
    wp_walk using wpAny_loadPart' hl
    exact ⟨_, rfl, h⟩
theorem tup_mul_none (c0 : (decide (x < -(2 ^ 63)) || decide (x ≥ 2 ^ 63)) = false) (c1 : (items.isEmpty || x == 1) = false) (c2 : (decide (x ≤ 0) || items.isEmpty) = true) :
    Meets (Builtin.«tuple.__mul__» ⟨[.ref l, .int x u], []⟩) (fun _ R s => s.heap.get? l = some { cls := .type "tuple", dict := dd, data := .seq items n, slots := sl } ∧
      R (.ok (.ret (Value.ref s.heap.objs.size))) { s with heap := s.heap.push { cls := Value.type "tuple", data := Data.seq #[] }, toks := s.toks }) :=
  .of_wp fun prog w A R s q => by
    obtain ⟨hp, g, d, tk, os⟩ := s
    obtain ⟨hl, h⟩ := q
    have f1 := AutoSeq1.idx_int
    wp_walk using wpAny_loadPart' hl
    refine wpAny_ite_false (decide_eq_false (by rw [c0]; exact Bool.false_ne_true)) ?_
    wp_walk using wpAny_loadPart' hl
    repeat (first
      | (refine wpAny_ite_false (decide_eq_false (by rw [c1]; exact Bool.false_ne_true)) ?_; wp_walk using wpAny_loadPart' hl)
      | (refine wpAny_ite_true (decide_eq_true c2) ?_; wp_walk using wpAny_loadPart' hl))
    exact ⟨_, rfl, h⟩
end
theorem op_repA {X : Cx} : OpR X (binaryOp .Mult) (rRepA X.K) := by
  intro pins s σ H x y v u Q I rx ry ⟨l, k, xs, ex, ey, hT, h0, h1, hz, q1, q2⟩
  subst ex ey
  cases rx
  obtain ⟨t, rfl⟩ := ry
  obtain ⟨its, r, ⟨⟨cls, dd, data, sl⟩, ho, hc, n, hd⟩, hs⟩ := I.tuple hT
  simp only at hc hd
  subst hc hd
  have hle : its.length = xs.length := r.length.symm
  have c0 : (decide (k < -(2 ^ 63)) || decide (k ≥ 2 ^ 63)) = false := by
    rw [decide_eq_false (by omega), decide_eq_false (by omega)] <;> rfl
  have emp : its.toArray.isEmpty = decide (xs = []) := by
    cases its with
    | nil => rw [List.eq_nil_of_length_eq_zero hle.symm]; rfl
    | cons a b => cases xs with | nil => cases hle | cons c d => rfl
  refine wpAny_binaryOp_repeat_ref (T := "tuple") (U := "int") (by decide) ⟨_, ho, rfl⟩ (fun s' => typeIs_int s' k t) noFill_tuple_mul F.fills_int_mul F.slot_int_rmul repeat_tuple F.slot_int_index.lookup
    (call_meets F.slot_int_rmul (typeIs_int s k t) F.entry_int_rmul (F.args_int_rmul_2 _ _) (int_rmul_tuple k t l its.toArray n dd sl) ⟨ho, rfl, ⟨_, ho, rfl⟩, ?_⟩)
  by_cases e : k = 1 ∨ xs = []
  · refine call_meets F.slot_tuple_mul ⟨_, ho, rfl⟩ F.entry_tuple_mul (F.args_tuple_mul_2 _ _) (tup_mul_same l its.toArray n dd sl k t c0 ?_) ⟨ho, ⟨.ref l, H, I, rfl, q1 e⟩⟩
    rw [emp]
    rcases e with rfl | e
    · simp
    · simp [e]
  · have e1 : k ≠ 1 := fun z => e (.inl z)
    have e2 : xs ≠ [] := fun z => e (.inr z)
    have hi : its.toArray.isEmpty = false := by rw [emp]; exact decide_eq_false e2
    have c1 : (its.toArray.isEmpty || k == 1) = false := by rw [hi, Bool.false_or]; exact beq_eq_false_iff_ne.mpr e1
    have flen : (List.replicate k.toNat xs).flatten.length = k.toNat * xs.length := by simp
    by_cases e0 : k = 0
    · subst e0
      refine call_meets F.slot_tuple_mul ⟨_, ho, rfl⟩ F.entry_tuple_mul (F.args_tuple_mul_2 _ _) (tup_mul_none l its.toArray n dd sl 0 t c0 c1 (by rfl)) ⟨ho, ?_⟩
      exact ⟨.ref s.heap.objs.size, _, I.laid (t' := s.toks) (o := .tup []) (fun b ob z => Heap.get?_push_of_some _ z) (Nat.le_refl _) ⟨Nat.zero_le _, [], .nil, IsTup.new _ _⟩, rfl, q2 e1 e2 _ I.fresh⟩
    · have hsz0 : its.toArray.size = xs.length := by rw [List.size_toArray, hle]
      have hm : ((its.toArray.size : Nat) : Int) * k ≤ 1000000 := by
        rw [hsz0]
        have : ((xs.length * k.toNat : Nat) : Int) = (xs.length : Int) * k := by rw [Int.natCast_mul, Int.toNat_of_nonneg h0]
        omega
      have c2 : (decide (k ≤ 0) || its.toArray.isEmpty) = false := by rw [hi, Bool.or_false]; exact decide_eq_false (by omega)
      have c4 : Builtin.Tuple.tupleTooMany (((its.toArray.size : Nat) : Int) * k) = false := by
        unfold Builtin.Tuple.tupleTooMany
        rw [sizeLine_eq]
        exact decide_eq_false (by omega)
      have fl2 : (List.replicate k.toNat its).flatten.length ≤ sizeLine := by
        rw [PyProof.Rows.lm_len_rep_flat, hle, sizeLine_eq, Nat.mul_comm]
        omega
      refine call_meets F.slot_tuple_mul ⟨_, ho, rfl⟩ F.entry_tuple_mul (F.args_tuple_mul_2 _ _) (tuple_mulW l its.toArray n dd sl k t c0 c1 c2 (by omega) c4 (by rw [size_rep, List.size_toArray]; exact fl2)) ⟨ho, ?_⟩
      rw [size_rep]
      refine ⟨.ref s.heap.objs.size, _, I.laid (t' := s.toks) (o := .tup (List.replicate k.toNat xs).flatten) (fun b ob z => Heap.get?_push_of_some _ z) (Nat.le_refl _) ?_, rfl, q2 e1 e2 _ I.fresh⟩
      exact ⟨by rw [flen, sizeLine_eq, Nat.mul_comm]; omega, _, r.rep k.toNat, IsTup.new _ _⟩
abbrev CMu' := CMu
theorem op_mulA {X : Cx} : OpR X (binaryOp .Mult) (rMulA X.K) := (opI fun _ _ _ _ _ _ _ hc q => PyProof.Rows.mul_int q (CMulW.ok hc) : OpR X (binaryOp .Mult) (rI CMu fun i j => .int (i * j))).or (op_rep.or op_repA)
end DL

set_option maxRecDepth 100000
/-! The value layer: in, is, items, slices, built-in functions. -/
namespace DL
open PySem L2

section
variable {X : Cx} {w : Wd} {W : WX}
/-! ### in -/
def rInP (K : PySem.W.Frag) (neg : Bool) : R2 := fun x y H Q => ∃ d ds, Dp K H x d ∧ (Dp K H y (.list ds) ∨ Dp K H y (.tuple ds)) ∧ d.canLay0 = true ∧ PyData.canLayAll0 ds = true ∧ d.depth ≤ 190 ∧ Q (.bl (if neg then !(ds.any fun z => PyData.eqv z d) else ds.any fun z => PyData.eqv z d)) H
theorem op_inP (c : CxR X) : OpR X (compareOp .In) (rInP X.K false) := by
  intro pins s σ H x y v u Q I rx ry ⟨d, ds, hd, he, ld, le, dd, q⟩
  obtain ⟨as, r1⟩ := Dp.reads I d x v hd rx
  have hu : X.A.units + 1 + min (PyData.depthAll ds) d.depth < cLine := by
    have := c.un
    have : min (PyData.depthAll ds) d.depth ≤ d.depth := Nat.min_le_right _ _
    omega
  rcases he with he | he
  · obtain ⟨bs, r2⟩ := Dp.reads I _ y u he ry
    exact SeqAt.in_list_reads r2 r1 le ld hu ⟨.bl _, H, I, rfl, q⟩
  · obtain ⟨bs, r2⟩ := Dp.reads I _ y u he ry
    exact SeqAt.in_tuple_reads r2 r1 le ld hu ⟨.bl _, H, I, rfl, q⟩
theorem op_notInP (c : CxR X) : OpR X (compareOp .NotIn) (rInP X.K true) := by
  intro pins s σ H x y v u Q I rx ry ⟨d, ds, hd, he, ld, le, dd, q⟩
  obtain ⟨as, r1⟩ := Dp.reads I d x v hd rx
  have hu : X.A.units + 1 + min (PyData.depthAll ds) d.depth < cLine := by
    have := c.un
    have : min (PyData.depthAll ds) d.depth ≤ d.depth := Nat.min_le_right _ _
    omega
  rcases he with he | he
  · obtain ⟨bs, r2⟩ := Dp.reads I _ y u he ry
    exact SeqAt.notIn_list_reads r2 r1 le ld hu ⟨.bl _, H, I, rfl, q⟩
  · obtain ⟨bs, r2⟩ := Dp.reads I _ y u he ry
    exact SeqAt.notIn_tuple_reads r2 r1 le ld hu ⟨.bl _, H, I, rfl, q⟩
def memD (d : D) (ds : List D) : Bool := ds.any fun z => deq z d
theorem any_eqv {d : D} (hd : plain d = true) : ∀ ds : List D, plains ds = true → ((pys ds).any fun z => PyData.eqv z (py d)) = memD d ds
  | [], _ => rfl
  | e :: ds, h => by
    rw [plains, Bool.and_eq_true] at h
    unfold memD
    rw [pys, List.any_cons, List.any_cons, py_eqv e d h.1 hd]
    have := any_eqv hd ds h.2
    unfold memD at this
    rw [this]
/-- one sign of a text -/
def signIn (x y : String) : Bool := match x.toList with
  | [c] => decide (c ∈ y.toList)
  | _ => false
def inSeq (d : D) (ds : List D) (neg : Bool) : Option RV := if plain d = true ∧ plains ds = true ∧ dep d ≤ 190 then some (.bl (if neg then !memD d ds else memD d ds), .sh) else none
/-- dicts: ints and texts as keys, or tuples -/
def getK (kvs : List (D × D)) (k : D) : Option D := (kvs.find? fun p => deq p.1 k).map (·.2)
def oInG (neg : Bool) (a b : RV) (S : Store) : Option RV := match view S b.1 with
  | .lst ds => inSeq (view S a.1) ds neg
  | .tup ds => inSeq (view S a.1) ds neg
  | .str y => match view S a.1 with
    | .str x => if x.length = 1 then some (.bl (if neg then !signIn x y else signIn x y), .sh) else none
    | _ => none
  | _ => none
abbrev oIn := oInG false
abbrev oNotIn := oInG true
def rInS (neg : Bool) : R2 := fun x y H Q => ∃ (c : Nat) (z : Str), x = .str ⟨#[c]⟩ ∧ y = .str z ∧ Q (.bl (if neg then !decide (c ∈ z.cps.toList) else decide (c ∈ z.cps.toList))) H
def rInA (K : PySem.W.Frag) (neg : Bool) : R2 := fun x y H Q => rInP K neg x y H Q ∨ rInS neg x y H Q
theorem op_inA (c : CxR X) : OpR X (compareOp .In) (rInA X.K false) := (op_inP c).or op_in_sign
theorem op_notInA (c : CxR X) : OpR X (compareOp .NotIn) (rInA X.K true) := (op_notInP c).or op_notIn_sign
theorem one_sign {x : String} (h : x.length = 1) : ∃ c : Char, x.toList = [c] := by
  have : x.toList.length = 1 := by rw [String.length_toList]; exact h
  match e : x.toList, this with
  | [c], _ => exact ⟨c, rfl⟩
theorem signIn_s2 {x y : String} {c : Char} (h : x.toList = [c]) : decide (c.toNat ∈ (s2 y).cps.toList) = signIn x y := by
  unfold signIn
  rw [h, s2_cps]
  simp only [List.mem_map, decide_eq_decide]
  constructor
  · rintro ⟨d, hd, e⟩
    rw [show c = d from Char.ext (UInt32.toNat_inj.mp e.symm)]
    exact hd
  · intro hc
    exact ⟨c, hc, rfl⟩
theorem ok_inG {neg : Bool} : OkOp2 w (rInA w.K neg) (oInG neg) := by
  intro g ρ S σ H a b x y q Q rel ha hb e h
  have seq : ∀ ds, (Dp w.K H y (.list (pys ds)) ∨ Dp w.K H y (.tuple (pys ds))) ∨ plains ds = false → inSeq (view S a.1) ds neg = some q → rInA w.K neg x y H Q := by
    intro ds hds e
    unfold inSeq at e
    split at e
    · rename_i c
      cases e
      rcases hds with hds | hds
      · refine .inl ⟨_, _, (look_view rel ha).dp c.1, hds, py_lay _, pys_lay _, by rw [py_dep]; exact c.2.2, ?_⟩
        rw [any_eqv c.1 ds c.2.1]
        exact h _ _ (.same rel (.bl _))
      · rw [hds] at c; exact absurd c.2.1 Bool.false_ne_true
    · cases e
  unfold oInG at e
  split at e
  · rename_i ds eb
    cases hp : plains ds with
    | false => exact seq ds (.inr hp) e
    | true => exact seq ds (.inl (.inl ((hb.lk rel eb).dp (by simpa [plain] using hp)))) e
  · rename_i ds eb
    cases hp : plains ds with
    | false => exact seq ds (.inr hp) e
    | true => exact seq ds (.inl (.inr ((hb.lk rel eb).dp (by simpa [plain] using hp)))) e
  · rename_i t eb
    split at e
    · rename_i z ea
      split at e
      · rename_i c
        cases e
        obtain ⟨ch, hc⟩ := one_sign c
        refine .inr ⟨ch.toNat, s2 t, ?_, (hb.lk rel eb).str, ?_⟩
        · rw [(ha.lk rel ea).str, show s2 z = _ from Str.ofString_eq_toList z, hc]; rfl
        · rw [signIn_s2 hc]
          exact h _ _ (.same rel (.bl _))
      · cases e
    · cases e
  · cases e

/-! ### is True, is False -/
def oIsB (neg : Bool) (a b : RV) (_ : Store) : Option RV := match a.1, b.1 with
  | .bl p, .bl q => some (.bl (if neg then !(p == q) else p == q), .sh)
  | _, _ => none

/-! ### items -/
theorem ixN_lt {n : Nat} {i : Int} {j : Nat} (h : ixN n i = some j) : j < n := (ixN_seq h).2.1
theorem Reps.atI {m : List Addr} {Z : Addr → Prop} {H : Hp} {ds : List D} {vs : List V} {i : Int} {d : D} (h : Reps w m Z H ds vs) (e : L2.atI ds i = some d) : ∃ v, L2.atI vs i = some v ∧ Rep w m Z H d v := by
  unfold L2.atI at e ⊢
  rw [← h.length]
  cases q : ixN ds.length i with
  | none => rw [q] at e; cases e
  | some j =>
    rw [q] at e
    exact h.get e
def oIdx (a b : RV) (S : Store) : Option RV := match view S a.1, view S b.1 with
  | .lst ds, .int i => (atI ds i).map fun d => (d, .sh)
  | .tup ds, .int i => (atI ds i).map fun d => (d, .sh)
  | .str x, .int i => if x.length ≤ sizeLine then (atI x.toList i).map fun c => (.str (String.singleton c), .sh) else none
  | _, _ => none
theorem s2_single (c : Char) : s2 (String.singleton c) = ⟨#[c.toNat]⟩ := by
  rw [show s2 (String.singleton c) = _ from Str.ofString_eq_toList _]
  simp
theorem ok_idx : OkOp2 w (rIx w.K) oIdx := by
  intro g ρ S σ H a b x y q Q rel ha hb e h
  unfold oIdx at e
  split at e
  · rename_i ds i ea eb
    obtain ⟨d, e1, rfl⟩ := Option.map_eq_some_iff.mp e
    obtain ⟨p, vs, rfl, hp, rp⟩ := (ha.lk rel ea).lst
    obtain ⟨v, hv, rv⟩ := rp.atI e1
    exact .inl ⟨p, vs, i, v, rfl, (hb.lk rel eb).int, .of hp, hv, h _ _ (.same rel rv)⟩
  · rename_i ds i ea eb
    obtain ⟨d, e1, rfl⟩ := Option.map_eq_some_iff.mp e
    obtain ⟨p, vs, rfl, hp, rp⟩ := (ha.lk rel ea).tup
    obtain ⟨v, hv, rv⟩ := rp.atI e1
    exact .inr (.inl ⟨p, vs, i, v, rfl, (hb.lk rel eb).int, hp, hv, h _ _ (.same rel rv)⟩)
  · rename_i z i ea eb
    split at e
    · rename_i c
      obtain ⟨d, e1, rfl⟩ := Option.map_eq_some_iff.mp e
      refine .inr (.inr ⟨s2 z, i, d.toNat, (ha.lk rel ea).str, (hb.lk rel eb).int, by rw [s2_len]; exact c, ?_, ?_⟩)
      · unfold L2.atI at e1 ⊢
        rw [s2_cps, List.length_map]
        cases q : ixN z.toList.length i with
        | none => rw [q] at e1; cases e1
        | some j =>
          rw [q] at e1
          show (List.map Char.toNat z.toList)[j]? = _
          rw [List.getElem?_map]
          have e2 : z.toList[j]? = some d := e1
          rw [e2]; rfl
      · rw [← s2_single]
        exact h _ _ (.same rel (.str _))
    · cases e
  · cases e
theorem e_idx {a b : Expr} {fa fb : SE} {pos : Pos} (hs : PlainIx b) (ha : PE X a (rdE w W fa)) (hb : PE X b (rdE w W fb)) (hK : X.K = w.K) : PE X (.Subscript a b pos) (rdE w W (sOp2 oIdx fa fb)) :=
  PE.imp (pe_ix (r := rIx w.K) (hK ▸ ix_seq) ha hb hs) fun _ _ _ h => rd_op2 ok_idx h
end
end DL

set_option maxRecDepth 100000
/-! The value layer: slices, built-in functions. -/
namespace DL
open PySem L2

section
variable {X : Cx} {w : Wd} {W : WX}
/-! ### slices -/
abbrev SO := Loc → Store → R (Option Int)
def PostO (w : Wd) (W : WX) (ρ : Loc) (σ : St) (Q : Option Int → Hp → Prop) (g : G) (H : Hp) (t : R (Option Int)) : Prop := match t with
  | .ok b S' => ∀ H', (∃ m', StepE g.m H m' H' ∧ Rel w (g.at m') ρ S' σ H') → Q b H'
  | .exc x S' => ∀ cls dd H', XOk w g H ρ σ x S' cls dd H' → W cls dd σ H'
  | .bad => False
theorem goodO {ρ : Loc} {σ : St} {Q : Option Int → Hp → Prop} : Good w W ρ σ R.exc R.bad (PostO w W ρ σ Q) where
  step := fun g H m1 H1 t s p => by
    cases t with
    | ok r S => exact fun H' ⟨m', a, b⟩ => p H' ⟨m', s.trans a, b⟩
    | exc x S => exact fun cls dd H' q => p cls dd H' (q.trans s)
    | bad => exact p
  exc := fun _ _ _ _ p => p
  bad := fun _ _ p => p
def rdO (w : Wd) (W : WX) (f : SO) : TO := fun σ H Q => ∃ g ρ S, Rel w g ρ S σ H ∧ PostO w W ρ σ Q g H (f ρ S)
theorem bindO {ρ : Loc} {σ : St} {T : Type} {ex : D → Store → T} {bd : T} {P : G → Hp → T → Prop} {g : G} {S : Store} {H : Hp} {f : SO} {k : Option Int → Store → T} (rel : Rel w g ρ S σ H) (h : P g H ((f ρ S).go ex bd k)) (gd : Good w W ρ σ ex bd P) :
    rdO w W f σ H fun b H1 => ∃ S1 m1, StepE g.m H m1 H1 ∧ Rel w (g.at m1) ρ S1 σ H1 ∧ P (g.at m1) H1 (k b S1) := by
  refine ⟨g, ρ, S, rel, ?_⟩
  cases e : f ρ S with
  | ok r S1 =>
    rw [e] at h
    exact fun H1 ⟨m1, s, r'⟩ => ⟨S1, m1, s, r', gd.step _ _ _ _ _ s h⟩
  | exc x S1 => rw [e] at h; exact gd.exc _ _ _ _ h
  | bad => rw [e] at h; exact gd.bad _ _ h
theorem rdO_imp {f : SO} {σ : St} {H : Hp} {Q Q' : Option Int → Hp → Prop} (h : rdO w W f σ H Q) (i : ∀ v H', Q v H' → Q' v H') : rdO w W f σ H Q' := by
  obtain ⟨g, ρ, S, r, h⟩ := h
  refine ⟨g, ρ, S, r, ?_⟩
  cases e : f ρ S with
  | ok r S' => rw [e] at h; exact fun H' q => i r H' (h H' q)
  | exc x S' => rw [e] at h; exact h
  | bad => rw [e] at h; exact h
theorem PO.imp {e : Option Expr} {t t' : TO} (h : PO X e t) (i : ∀ σ H Q, t' σ H Q → t σ H Q) : PO X e t' := ⟨fun pins s σ H Q I q => h.run pins s σ H Q I (i _ _ _ q)⟩
def sNoPart : SO := fun _ S => .ok none S
def sPart (f : SE) : SO := fun ρ S => (f ρ S).bind fun r S1 => match r.1 with
  | .int i => .ok (some i) S1
  | _ => .bad
theorem o_none : PO X none (rdO w W sNoPart) := PO.imp po_none fun σ H Q ⟨g, ρ, S, rel, h⟩ => h H ⟨g.m, .refl _ _, rel⟩
theorem o_some {e : Expr} {f : SE} (h : PE X e (rdE w W f)) : PO X (some e) (rdO w W (sPart f)) := PO.imp (po_some h) fun σ H Q ⟨g, ρ, S, rel, h⟩ => by
  refine rdE_imp (bindE rel h goodO) fun v H1 ⟨r1, S1, m1, s1, rel1, res1, _, h1⟩ => ?_
  obtain ⟨d, fl⟩ := r1
  cases d with
  | int i => exact ⟨i, (show Look w m1 g.Z H1 (.int i) v from res1.arg.read.look).int, h1 H1 ⟨m1, .refl _ _, rel1⟩⟩
  | _ => exact h1.elim
def cutD {α : Type} (ds : List α) (lo hi : Option Int) : List α := (ds.drop (HT.sIx ds.length 0 lo)).take (HT.sIx ds.length ds.length hi - HT.sIx ds.length 0 lo)
def oSl (a : RV) (lo hi : Option Int) (S : Store) : Option RV := match view S a.1 with
  | .tup ds => some (.tup (cutD ds lo hi), .sh)
  | .lst ds => some (.lst (cutD ds lo hi), .own)
  | .str x => if x.length ≤ sizeLine then some (.str (String.ofList (cutD x.toList lo hi)), .sh) else none
  | _ => none
def sSl (f : SE) (lo hi : SO) : SE := fun ρ S => (f ρ S).bind fun r S1 => (lo ρ S1).bind fun l S2 => (hi ρ S2).bind fun u S3 => opt (oSl r l u S3) S3
def rSlAll (K : PySem.W.Frag) : V → Option Int → Option Int → Hp → VK → Prop := fun x lo hi H Q => rSlA K x lo hi H Q ∨ rSlL K x lo hi H Q ∨ rSlS x lo hi H Q
theorem sl_all : SlR X (rSlAll X.K) := sl_tupA.or (sl_list.or sl_str)
theorem cutD_whole {α : Type} {ds : List α} {lo hi : Option Int} (h : HT.sIx ds.length 0 lo = 0 ∧ HT.sIx ds.length ds.length hi = ds.length) : cutD ds lo hi = ds := by
  unfold cutD
  rw [h.1, h.2]; simp
theorem Reps.cut {m : List Addr} {Z : Addr → Prop} {H : Hp} {ds : List D} {vs : List V} {lo hi : Option Int} (h : Reps w m Z H ds vs) : Reps w m Z H (cutD ds lo hi) (cutV vs lo hi) := by
  unfold cutD cutV
  rw [← h.length]
  exact (h.drop _).take _
theorem e_sl {e : Expr} {lo hi : Option Expr} {f : SE} {fl fh : SO} {pos p2 : Pos} (hK : X.K = w.K) (he : PE X e (rdE w W f)) (hl : PO X lo (rdO w W fl)) (hh : PO X hi (rdO w W fh)) : PE X (.Subscript e (.Slice lo hi none p2) pos) (rdE w W (sSl f fl fh)) := by
  refine PE.imp (pe_slice (hr := (hK ▸ sl_all : SlR X (rSlAll w.K))) he hl hh) fun σ H Q ⟨g, ρ, S, rel, h⟩ => ?_
  refine rdE_imp (bindE rel h goodE) fun v H1 ⟨r1, S1, m1, s1, rel1, res1, _, h1⟩ => ?_
  refine rdO_imp (bindO rel1 h1 goodE) fun l H2 ⟨S2, m2, s2, rel2, h2⟩ => ?_
  refine rdO_imp (bindO rel2 h2 goodE) fun u H3 ⟨S3, m3, s3, rel3, h3⟩ => ?_
  obtain ⟨q, e1, h4⟩ := post_opt h3
  have lk := look_view rel3 ((s2.trans s3).arg res1.arg)
  unfold oSl at e1
  split at e1
  · rename_i ds ea
    rw [ea] at lk
    cases e1
    obtain ⟨p, vs, rfl, hp, rp⟩ := lk.tup
    refine .inl ⟨p, vs, rfl, hp, fun wh => ?_, fun _ t ht => h4 _ _ (.tup rel3 rp.cut ht)⟩
    rw [← rp.length] at wh
    rw [cutD_whole wh] at h4
    exact h4 _ _ (.same rel3 (lk.rep rfl))
  · rename_i ds ea
    rw [ea] at lk
    cases e1
    obtain ⟨p, vs, rfl, hp, rp⟩ := lk.lst
    exact .inr (.inl ⟨p, vs, rfl, .of hp, fun t ht => h4 _ _ (.lst rel3 rp.cut ht)⟩)
  · rename_i z ea
    rw [ea] at lk
    split at e1
    · rename_i c
      cases e1
      refine .inr (.inr ⟨_, lk.str, by rw [s2_len]; exact c, ?_⟩)
      have eq : cutS (DL.s2 z) l u = DL.s2 (String.ofList (cutD z.toList l u)) := by
        rw [show DL.s2 (String.ofList _) = _ from Str.ofString_eq_toList _, String.toList_ofList]
        unfold cutS cutD
        rw [s2_cps, s2_len, String.length_toList]
        simp only [List.map_take, List.map_drop]
      rw [eq]
      exact h4 _ _ (.same rel3 (.str _))
    · cases e1
  · cases e1

/-! ### built-in functions by values -/
theorem CallR.or {f : Value} {r r' : List V → Hp → VK → Prop} (h : CallR X f r) (h' : CallR X f r') : CallR X f (fun xs H Q => r xs H Q ∨ r' xs H Q) :=
  fun pins s σ H xs us Q I v q => q.elim (h pins s σ H xs us Q I v) (h' pins s σ H xs us Q I v)
theorem rd_opN {r : List V → Hp → VK → Prop} {op : List RV → Store → Option RV} (ok : OkOpN w r op) {fs : SA} {σ : St} {H : Hp} {Q : VK} (h : rdE w W (sOpN op fs) σ H Q) : tCB r (rdA w W fs) σ H Q := by
  obtain ⟨g, ρ, S, rel, h⟩ := h
  refine rdA_imp (bindA rel h goodE) fun vs H1 ⟨rs, S1, m1, s1, rel1, as, _, h1⟩ => ?_
  obtain ⟨q, e, h3⟩ := post_opt h1
  exact ok (g.at m1) ρ S1 σ H1 rs vs q Q rel1 as e h3
/-- a global name of a built-in -/
structure BN (X : Cx) (x : Str) (u : Value) : Prop where
  gl : Gl X x
  mg : X.mg x = none
  bt : bootBuiltins x = some u
  n1 : x ≠ "__name__"
  n2 : (x == ("__debug__" : Str)) = false
theorem e_callB {r : List V → Hp → VK → Prop} {op : List RV → Store → Option RV} (ok : OkOpN w r op) {x : Str} {id : String} (hc : CallR X (.builtin id) r) (b : BN X x (.builtin id)) {e : Expr} {es : List Expr} {fs : SA} {p pos : Pos}
    (he : starEach (e :: es) X.env = (false, eval e X.env) :: starEach es X.env) (hpl : (backTo pos (starEach es X.env)).any (·.1) = false) (ha : PA X (e :: es) (rdA w W fs)) : PE X (.Call (.Name x p) (e :: es) [] pos) (rdE w W (sOpN op fs)) :=
  PE.imp (pe_callB hc b.gl b.mg b.bt ha b.n1 b.n2 he hpl) fun _ _ _ h => rd_opN ok h
theorem e_callTy {r : List V → Hp → VK → Prop} {op : List RV → Store → Option RV} (ok : OkOpN w r op) {x : Str} {T : String} (hc : CallR X (.type T) r) (b : BN X x (.type T)) {e : Expr} {es : List Expr} {fs : SA} {p pos : Pos}
    (he : starEach (e :: es) X.env = (false, eval e X.env) :: starEach es X.env) (hpl : (backTo pos (starEach es X.env)).any (·.1) = false) (ha : PA X (e :: es) (rdA w W fs)) : PE X (.Call (.Name x p) (e :: es) [] pos) (rdE w W (sOpN op fs)) :=
  PE.imp (pe_callTy hc b.gl b.mg b.bt ha b.n1 b.n2 he hpl) fun _ _ _ h => rd_opN ok h

def on1 (f : RV → Store → Option RV) (rs : List RV) (S : Store) : Option RV := match rs with
  | [a] => f a S
  | _ => none
/-- one argument -/
theorem ok_on1 {r : List V → Hp → VK → Prop} {f : RV → Store → Option RV} (h : OkOp1 w (fun x H Q => r [x] H Q) f) : OkOpN w r (on1 f) := by
  intro g ρ S σ H as xs q Q rel ha e k
  cases ha with
  | nil => cases e
  | cons a t =>
    cases t with
    | nil => exact h g ρ S σ H _ _ q Q rel a e k
    | cons _ _ => cases e
def on2 (f : RV → RV → Store → Option RV) (rs : List RV) (S : Store) : Option RV := match rs with
  | [a, b] => f a b S
  | _ => none
theorem ok_on2 {r : List V → Hp → VK → Prop} {f : RV → RV → Store → Option RV} (h : OkOp2 w (fun x y H Q => r [x, y] H Q) f) : OkOpN w r (on2 f) := by
  intro g ρ S σ H as xs q Q rel ha e k
  cases ha with
  | nil => cases e
  | cons a t =>
    cases t with
    | nil => cases e
    | cons b t =>
      cases t with
      | nil => exact h g ρ S σ H _ _ _ _ q Q rel a b e k
      | cons _ _ => cases e
end
end DL

set_option maxRecDepth 100000
/-! The value layer: statements. -/
namespace DL
open PySem L2

/-- what a statement comes to -/
inductive O where
  | nx (ρ : Loc) (S : Store)
  | rt (r : RV) (S : Store)
  | bk (ρ : Loc) (S : Store)
  | ct (ρ : Loc) (S : Store)
  | ex (x : D) (ρ : Loc) (S : Store)
  | bad
abbrev SS := Loc → Store → O

/-- what a statement does to the heap: one's own boxes may change, too -/
structure StepS (g : G) (H : Hp) (g' : G) (H' : Hp) : Prop where
  keep : ∀ b o, H b = some o → (b ∉ g.m ∧ b ∉ g.zo ∨ fixO b o) → (∀ ps, o ≠ .tbl ps) → H' b = some o
  grow : ∀ b, H' b = none → H b = none
  ms : ∃ ex, g'.m = g.m ++ ex ∧ ∀ b ∈ ex, H b = none
  zo : ∀ b ∈ g'.zo, b ∈ g.zo ∨ H b = none
  zb : g'.zb = g.zb
  sl : g'.sl = g.sl
theorem StepE.toS {g : G} {m' : List Addr} {H H' : Hp} (s : StepE g.m H m' H') : StepS g H (g.at m') H' :=
  ⟨fun b o e h t => s.keep b o e (h.imp And.left id) t, s.grow, s.ms, fun _ h => .inl h, rfl, rfl⟩
theorem StepS.refl (g : G) (H : Hp) : StepS g H g H := (StepE.refl g.m H).toS
theorem StepS.trans {g1 g2 g3 : G} {H1 H2 H3 : Hp} (a : StepS g1 H1 g2 H2) (b : StepS g2 H2 g3 H3) : StepS g1 H1 g3 H3 where
  keep := fun c o e h t => by
    obtain ⟨e1, q1, n1⟩ := a.ms
    refine b.keep c o (a.keep c o e h t) (h.imp (fun ⟨x, y⟩ => ⟨fun q => ?_, fun q => ?_⟩) id) t
    · rw [q1] at q
      rcases List.mem_append.mp q with q | q
      · exact x q
      · rw [n1 c q] at e; cases e
    · rcases a.zo c q with q | q
      · exact y q
      · rw [q] at e; cases e
  grow := fun c e => a.grow c (b.grow c e)
  ms := by
    obtain ⟨e1, q1, n1⟩ := a.ms
    obtain ⟨e2, q2, n2⟩ := b.ms
    refine ⟨e1 ++ e2, by rw [q2, q1, List.append_assoc], fun c hc => ?_⟩
    rcases List.mem_append.mp hc with q | q
    · exact n1 c q
    · exact a.grow c (n2 c q)
  zo := fun c h => by
    rcases b.zo c h with q | q
    · exact a.zo c q
    · exact .inr (a.grow c q)
  zb := b.zb.trans a.zb
  sl := b.sl.trans a.sl

section
variable {w : Wd} {W : WX}
def SOk (w : Wd) (g : G) (H : Hp) (ρ : Loc) (S : Store) (σ : St) (H' : Hp) : Prop := ∃ g', StepS g H g' H' ∧ Rel w g' ρ S σ H'
/-- what is handed back: only what is lent stays apart from it -/
def RtOk (w : Wd) (g : G) (H : Hp) (r : RV) (S : Store) (v : V) (H' : Hp) : Prop := ∃ g', StepS g H g' H' ∧ Stored w g'.m g'.Z H' S ∧ g'.m.Nodup ∧ (∀ b ∈ g'.m, ¬ g'.Z b) ∧ (∀ b, (b ∈ g'.m ∨ g'.Z b) → H' b ≠ none) ∧ (∀ b ∈ g'.zo, b ∉ g'.zb) ∧
  match r.2 with
  | .sh => Rep w g'.m g'.Z H' r.1 v
  | .own => ∃ a, v = .ref a ∧ a ∉ g'.m ∧ BoxW w g'.m g'.Z H' r.1 a ∧ a ∈ g'.zo
  | _ => False
def SXOk (w : Wd) (g : G) (H : Hp) (x : D) (ρ : Loc) (S : Store) (cls : Value) (dd : Option Addr) (σ : St) (H' : Hp) : Prop := ∃ g', StepS g H g' H' ∧ Rel w g' ρ S σ H' ∧ RepX w g'.m g'.Z H' x cls dd
def PostS (w : Wd) (W : WX) (D : Ends) (g : G) (H : Hp) (t : O) : Prop := match t with
  | .nx ρ S => ∀ σ' H', SOk w g H ρ S σ' H' → D.nx σ' H'
  | .rt r S => ∀ v H', RtOk w g H r S v H' → D.rt v H'
  | .bk ρ S => ∀ σ' H', SOk w g H ρ S σ' H' → D.bk σ' H'
  | .ct ρ S => ∀ σ' H', SOk w g H ρ S σ' H' → D.ct σ' H'
  | .ex x ρ S => ∀ cls dd σ' H', SXOk w g H x ρ S cls dd σ' H' → W cls dd σ' H'
  | .bad => False
def rdS (w : Wd) (W : WX) (f : SS) : TS := fun D σ H => ∃ g ρ S, Rel w g ρ S σ H ∧ PostS w W D g H (f ρ S)
theorem PostS.step {D : Ends} {g g1 : G} {H H1 : Hp} {t : O} (s : StepS g H g1 H1) (p : PostS w W D g H t) : PostS w W D g1 H1 t := by
  cases t with
  | nx ρ S => exact fun σ' H' ⟨g', a, b⟩ => p σ' H' ⟨g', s.trans a, b⟩
  | rt r S => exact fun v H' ⟨g', a, b⟩ => p v H' ⟨g', s.trans a, b⟩
  | bk ρ S => exact fun σ' H' ⟨g', a, b⟩ => p σ' H' ⟨g', s.trans a, b⟩
  | ct ρ S => exact fun σ' H' ⟨g', a, b⟩ => p σ' H' ⟨g', s.trans a, b⟩
  | ex x ρ S => exact fun cls dd σ' H' ⟨g', a, b⟩ => p cls dd σ' H' ⟨g', s.trans a, b⟩
  | bad => exact p
theorem goodS {ρ : Loc} {σ : St} {D : Ends} : Good w W ρ σ (fun x S => .ex x ρ S) .bad (PostS w W D) where
  step := fun g H m1 H1 t s p => p.step s.toS
  exc := fun g H x S p cls dd H' ⟨m', a, b, c⟩ => p cls dd σ H' ⟨g.at m', a.toS, b, c⟩
  bad := fun _ _ p => p

/-! ### blocks -/
def sSkip : SS := fun ρ S => .nx ρ S
def sSeq (s t : SS) : SS := fun ρ S => match s ρ S with
  | .nx ρ1 S1 => t ρ1 S1
  | o => o
variable {X : Cx}
theorem ss_nil : PSs X [] (rdS w W sSkip) := PSs.imp pss_nil fun D σ H ⟨g, ρ, S, rel, h⟩ => h σ H ⟨g, .refl _ _, rel⟩
theorem ss_cons {st : Stmt} {rest : List Stmt} {s t : SS} (h1 : PS X st (rdS w W s)) (h2 : PSs X rest (rdS w W t)) : PSs X (st :: rest) (rdS w W (sSeq s t)) := by
  refine PSs.imp (pss_cons h1 h2) fun D σ H ⟨g, ρ, S, rel, h⟩ => ⟨g, ρ, S, rel, ?_⟩
  unfold sSeq at h
  cases e : s ρ S with
  | nx ρ1 S1 =>
    rw [e] at h
    exact fun σ' H' ⟨g', a, b⟩ => ⟨g', ρ1, S1, b, PostS.step a h⟩
  | rt r S1 => rw [e] at h; exact h
  | bk ρ1 S1 => rw [e] at h; exact h
  | ct ρ1 S1 => rw [e] at h; exact h
  | ex x ρ1 S1 => rw [e] at h; exact h
  | bad => rw [e] at h; exact h
theorem ss_one {st : Stmt} {s : SS} (h : PS X st (rdS w W s)) : PSs X [st] (rdS w W s) := pss_one h
def sBreak : SS := fun ρ S => .bk ρ S
def sCont : SS := fun ρ S => .ct ρ S
theorem st_pass {pos : Pos} : PS X (.Pass pos) (rdS w W sSkip) := PS.imp ps_pass fun D σ H ⟨g, ρ, S, rel, h⟩ => h σ H ⟨g, .refl _ _, rel⟩
theorem st_break {pos : Pos} : PS X (.Break pos) (rdS w W sBreak) := PS.imp ps_break fun D σ H ⟨g, ρ, S, rel, h⟩ => h σ H ⟨g, .refl _ _, rel⟩
theorem st_continue {pos : Pos} : PS X (.Continue pos) (rdS w W sCont) := PS.imp ps_continue fun D σ H ⟨g, ρ, S, rel, h⟩ => h σ H ⟨g, .refl _ _, rel⟩
/-- an expression ahead, in a statement -/
def goS {α : Type} (r : R α) (ρ : Loc) (k : α → Store → O) : O := r.go (fun x S => .ex x ρ S) .bad k
def sDrop (f : SE) : SS := fun ρ S => goS (f ρ S) ρ fun _ S1 => .nx ρ S1
theorem st_expr {e : Expr} {f : SE} {pos : Pos} (hs : swapsWith e none pos.line X.env = pure false) (he : PE X e (rdE w W f)) : PS X (.Expr e pos) (rdS w W (sDrop f)) := by
  refine PS.imp (ps_expr he hs) fun D σ H ⟨g, ρ, S, rel, h⟩ => ?_
  refine rdE_imp (bindE rel h goodS) fun v H1 ⟨r1, S1, m1, s1, rel1, res1, _, h1⟩ => ?_
  exact h1 σ H1 ⟨g.at m1, .refl _ _, rel1⟩
def sRet (f : SE) : SS := fun ρ S => goS (f ρ S) ρ fun r S1 => if leakOk r = true then .rt (r.1, if r.2 = .own then .own else .sh) S1 else .bad
theorem BoxW.ne {m : List Addr} {Z : Addr → Prop} {H : Hp} {d : D} {a : Addr} (b : BoxW w m Z H d a) : H a ≠ none := by
  cases b with
  | lst h _ => rw [h]; simp
  | dk h _ => rw [h]; simp
  | dt h _ => rw [h]; simp
  | ins h _ => rw [h]; simp
theorem Box.ne {m : List Addr} {Z : Addr → Prop} {H : Hp} {d : D} {a : Addr} (b : Box w m Z H d a) : H a ≠ none := by
  cases b with
  | lst h _ => rw [h]; simp
  | dk h _ => exact rd_ne h
  | dt h _ => exact rd_ne h
  | ins h _ => rw [h]; simp
/-- one's own box comes to the state: g behind it -/
def G.own (g : G) (m : List Addr) (a : Addr) : G := { m := m, zo := a :: g.zo, zb := g.zb, sl := g.sl }
theorem G.own_Z {g : G} {m : List Addr} {a : Addr} (b : Addr) : (g.own m a).Z b ↔ (g.Z b ∨ b = a) := by
  unfold G.Z G.own
  simp only [List.mem_cons]
  constructor
  · rintro ((h | h) | h)
    · exact .inr h
    · exact .inl (.inl h)
    · exact .inl (.inr h)
  · rintro ((h | h) | h)
    · exact .inl (.inr h)
    · exact .inr h
    · exact .inl (.inl h)
theorem StepS.own {g : G} {m1 : List Addr} {a : Addr} {H H1 : Hp} (s : StepE g.m H m1 H1) (n : H a = none) : StepS g H (g.own m1 a) H1 where
  keep := s.toS.keep
  grow := s.grow
  ms := s.ms
  zo := fun b hb => by
    rcases List.mem_cons.mp hb with rfl | hb
    · exact .inr n
    · exact .inl hb
  zb := rfl
  sl := rfl
theorem Rel.rt {g : G} {ρ : Loc} {S1 : Store} {σ : St} {H H1 : Hp} {m1 : List Addr} {r : RV} {v : V} (s1 : StepE g.m H m1 H1) (rel1 : Rel w (g.at m1) ρ S1 σ H1) (res : Res w (g.at m1) H r S1 v H1) (l : leakOk r = true) :
    RtOk w g H (r.1, if r.2 = .own then .own else .sh) S1 v H1 := by
  obtain ⟨d, fl⟩ := r
  cases fl with
  | sh => exact ⟨_, s1.toS, rel1.sto, rel1.nd, rel1.sep, rel1.trk, rel1.sez, res⟩
  | bor => exact ⟨_, s1.toS, rel1.sto, rel1.nd, rel1.sep, rel1.trk, rel1.sez, Arg.rep (r := (d, .bor)) (Lent.read res) l⟩
  | mine => exact ⟨_, s1.toS, rel1.sto, rel1.nd, rel1.sep, rel1.trk, rel1.sez, Arg.rep (r := (d, .mine)) res l⟩
  | own =>
    obtain ⟨a, e, hn, nm, nz, b, sto⟩ := res
    have lz : ∀ c, (g.own m1 a).Z c → (fun c => g.Z c ∨ c = a) c ∨ H1 c = none := fun c h => .inl ((G.own_Z c).mp h)
    refine ⟨g.own m1 a, .own s1 hn, sto.less lz, rel1.nd, fun c hc z => ?_, fun c hc => ?_, fun c hc => ?_, a, e, nm, b.less lz, List.mem_cons_self⟩
    · rcases (G.own_Z c).mp z with z | rfl
      · exact rel1.sep c hc z
      · exact nm hc
    · rcases hc with hc | hc
      · exact rel1.trk c (.inl hc)
      · rcases (G.own_Z c).mp hc with z | rfl
        · exact rel1.trk c (.inr z)
        · exact b.ne
    · rcases List.mem_cons.mp hc with rfl | hc
      · exact fun q => nz (.inr q)
      · exact rel1.sez c hc
theorem st_ret {e : Expr} {f : SE} {pos : Pos} (he : PE X e (rdE w W f)) : PS X (.Return (some e) pos) (rdS w W (sRet f)) := by
  refine PS.imp (ps_ret he) fun D σ H ⟨g, ρ, S, rel, h⟩ => ?_
  refine rdE_imp (bindE0 rel h goodS) fun v H1 ⟨r1, S1, m1, s1, rel1, res1, h1⟩ => ?_
  split at h1
  · rename_i c
    exact h1 v H1 (Rel.rt s1 rel1 res1 c)
  · exact h1.elim
def sRetN : SS := fun _ S => .rt (.non, .sh) S
theorem st_retN {pos : Pos} : PS X (.Return none pos) (rdS w W sRetN) := by
  refine PS.imp ps_retN fun D σ H ⟨g, ρ, S, rel, h⟩ => ?_
  exact h .non H ⟨g, .refl _ _, rel.sto, rel.nd, rel.sep, rel.trk, rel.sez, .non⟩
/-- one's own box is handed back by its name -/
def sRetV (i : Nat) : SS := fun ρ S => match ρ[i]? with
  | some (some (d, .own)) => .rt (d, .own) S
  | some (some (d, .sh)) => .rt (d, .sh) S
  | some (some (d, .bor)) => if box d = false then .rt (d, .sh) S else .bad
  | _ => .bad
theorem st_retV (i : Nat) {x : Str} {p pos : Pos} (hN : X.N[i]? = some x) (hv : Vis X.env.scope x) (hd : (x == ("__debug__" : Str)) = false) (hcd : (x == ("__classdict__" : Str)) = false) : PS X (.Return (some (.Name x p)) pos) (rdS w W (sRetV i)) := by
  refine PS.imp (ps_ret (pe_var hN hv hd hcd)) fun D σ H ⟨g, ρ, S, rel, h⟩ => ?_
  unfold sRetV at h
  cases e : ρ[i]? with
  | none => rw [e] at h; exact h.elim
  | some o =>
    cases o with
    | none => rw [e] at h; exact h.elim
    | some r =>
      obtain ⟨d, fl⟩ := r
      obtain ⟨v, hv, held⟩ := rel.loc i d fl e
      refine ⟨v, hv, ?_⟩
      rw [e] at h
      cases fl with
      | sh => exact h v H ⟨g, .refl _ _, rel.sto, rel.nd, rel.sep, rel.trk, rel.sez, held⟩
      | bor =>
        dsimp only at h
        split at h
        · rename_i c
          exact h v H ⟨g, .refl _ _, rel.sto, rel.nd, rel.sep, rel.trk, rel.sez, Read.rep (Lent.read held) c⟩
        · exact h.elim
      | mine => exact h.elim
      | own =>
        obtain ⟨a, rfl, b, z, n⟩ := held
        exact h _ H ⟨g, .refl _ _, rel.sto, rel.nd, rel.sep, rel.trk, rel.sez, a, rfl, n, b, z⟩
def sIfS (t : ST) (a b : SS) : SS := fun ρ S => goS (t ρ S) ρ fun c S1 => if c = true then a ρ S1 else b ρ S1
theorem st_if {c : Expr} {a b : List Stmt} {t : ST} {s u : SS} {pos : Pos} (hc : PT X c (rdT w W t)) (ha : PSs X a (rdS w W s)) (hb : PSs X b (rdS w W u)) : PS X (.If c a b pos) (rdS w W (sIfS t s u)) := by
  refine PS.imp (ps_if hc ha hb) fun D σ H ⟨g, ρ, S, rel, h⟩ => ?_
  refine rdT_imp (bindT rel h goodS) fun k H1 ⟨S1, m1, s1, rel1, _, h1⟩ => ?_
  cases k with
  | true => exact ⟨g.at m1, ρ, S1, rel1, h1⟩
  | false => exact ⟨g.at m1, ρ, S1, rel1, h1⟩

/-! ### names stored -/
theorem Rel.set {g : G} {ρ : Loc} {S : Store} {σ : St} {H : Hp} {i : Nat} {d : D} {v : V} (rel : Rel w g ρ S σ H) (h : Rep w g.m g.Z H d v) : Rel w g (ρ.set i (some (d, .sh))) S (σ.set i (some v)) H where
  len := by rw [List.length_set, List.length_set]; exact rel.len
  loc := fun j e fl q => by
    by_cases hj : i = j
    · subst hj
      by_cases hi : i < ρ.length
      · rw [List.getElem?_set_self hi] at q
        cases q
        exact ⟨v, by rw [List.getElem?_set_self (by rw [rel.len]; exact hi)], h⟩
      · rw [List.getElem?_eq_none (by simpa using hi)] at q; cases q
    · rw [List.getElem?_set_ne hj] at q
      rw [List.getElem?_set_ne hj]
      exact rel.loc j e fl q
  inj := fun j k e f a q1 q2 p1 p2 => by
    have nj : i ≠ j := fun z => by
      subst z
      by_cases hi : i < ρ.length
      · rw [List.getElem?_set_self hi] at q1; cases q1
      · rw [List.getElem?_eq_none (by simpa using hi)] at q1; cases q1
    have nk : i ≠ k := fun z => by
      subst z
      by_cases hi : i < ρ.length
      · rw [List.getElem?_set_self hi] at q2; cases q2
      · rw [List.getElem?_eq_none (by simpa using hi)] at q2; cases q2
    rw [List.getElem?_set_ne nj] at q1 p1
    rw [List.getElem?_set_ne nk] at q2 p2
    exact rel.inj j k e f a q1 q2 p1 p2
  sto := rel.sto
  nd := rel.nd
  sep := rel.sep
  sez := rel.sez
  trk := rel.trk
  slf := fun x e hx q => by
    by_cases hi : i = 0
    · subst hi
      by_cases hl : 0 < ρ.length
      · rw [List.getElem?_set_self hl] at q; cases q
      · rw [List.getElem?_eq_none (by simpa using hl)] at q; cases q
    · rw [List.getElem?_set_ne hi] at q
      rw [List.getElem?_set_ne hi]
      exact rel.slf x e hx q
/-- a name that holds one's own box from now on -/
theorem Rel.setOwn {g : G} {ρ : Loc} {S S1 : Store} {σ : St} {H H1 : Hp} {m1 : List Addr} {i : Nat} {d : D} {a : Addr} (hi0 : i ≠ 0) (rel : Rel w g ρ S σ H) (s1 : StepE g.m H m1 H1) (rel1 : Rel w (g.at m1) ρ S1 σ H1) (hn : H a = none) (nm : a ∉ m1) (nz : ¬ g.Z a)
    (b : BoxW w m1 (fun c => g.Z c ∨ c = a) H1 d a) (sto : Stored w m1 (fun c => g.Z c ∨ c = a) H1 S1) : Rel w (g.own m1 a) (ρ.set i (some (d, .own))) S1 (σ.set i (some (.ref a))) H1 := by
  have lz : ∀ c, (g.own m1 a).Z c → (fun c => g.Z c ∨ c = a) c ∨ H1 c = none := fun c h => .inl ((G.own_Z c).mp h)
  have ha : H1 a ≠ none := b.ne
  have M0 : Mono g.m g.Z H g.m (g.own m1 a).Z H := mono_z fun c h => ((G.own_Z c).mp h).imp id fun q => by rw [q]; exact hn
  have M1 : Mono g.m (g.own m1 a).Z H m1 (g.own m1 a).Z H1 := s1.mono fun _ q => q
  have own_ne : ∀ (j : Nat) e, ρ[j]? = some (some (e, .own)) → σ[j]? ≠ some (some (.ref a)) := fun j e q p => by
    obtain ⟨u, p2, a2, hu, b2, _⟩ := rel.loc j e .own q
    rw [p] at p2
    cases p2
    cases hu
    exact b2.ne hn
  refine ⟨by rw [List.length_set, List.length_set]; exact rel.len, fun j e fl q => ?_, fun j k e f c q1 q2 p1 p2 => ?_, sto.less lz, rel1.nd, fun c hc z => ?_, fun c hc => ?_, fun c hc => ?_, fun x e hx q => by rw [List.getElem?_set_ne hi0] at q ⊢; exact rel.slf x e hx q⟩
  · by_cases hj : i = j
    · subst hj
      by_cases hi : i < ρ.length
      · rw [List.getElem?_set_self hi] at q
        cases q
        exact ⟨.ref a, by rw [List.getElem?_set_self (by rw [rel.len]; exact hi)], a, rfl, b.less lz, List.mem_cons_self, nm⟩
      · rw [List.getElem?_eq_none (by simpa using hi)] at q; cases q
    · rw [List.getElem?_set_ne hj] at q
      rw [List.getElem?_set_ne hj]
      obtain ⟨u, hu, held⟩ := rel.loc j e fl q
      refine ⟨u, hu, ?_⟩
      cases fl with
      | sh => exact (Rep.mono M0 held).mono M1
      | mine => exact held.elim
      | bor =>
        refine s1.lent (g := g.own g.m a) ?_
        rcases held with held | ⟨c, e1, bx, n1, z1⟩
        · exact .inl (held.mono M0)
        · have ne : c ≠ a := fun z => bx.ne (by rw [z]; exact hn)
          refine .inr ⟨c, e1, ?_, n1, fun q => (List.mem_cons.mp q).elim ne z1⟩
          cases bx with
          | lst h r => exact .lst h (r.mono M0)
          | dk h r => exact .dk h (r.mono M0)
          | dt h r => exact .dt h (r.mono M0)
          | ins h r => exact .ins h (r.mono M0)
      | own =>
        obtain ⟨c, e1, bx, zc, n1⟩ := held
        refine ⟨c, e1, s1.boxW (Z := (g.own m1 a).Z) ?_ n1, List.mem_cons_of_mem _ zc, s1.notm bx.ne n1⟩
        cases bx with
        | lst h r => exact .lst h (r.mono M0)
        | dk h r => exact .dk h (r.mono M0)
        | dt h r => exact .dt h (r.mono M0)
        | ins h r => exact .ins h (r.mono M0)
  · by_cases hj : i = j
    · by_cases hk : i = k
      · rw [← hj, ← hk]
      · subst hj
        rw [List.getElem?_set_ne hk] at q2 p2
        by_cases hi : i < σ.length
        · rw [List.getElem?_set_self hi] at p1
          cases p1
          exact absurd p2 (own_ne k f q2)
        · rw [List.getElem?_eq_none (by simpa using hi)] at p1; cases p1
    · by_cases hk : i = k
      · subst hk
        rw [List.getElem?_set_ne hj] at q1 p1
        by_cases hi : i < σ.length
        · rw [List.getElem?_set_self hi] at p2
          cases p2
          exact absurd p1 (own_ne j e q1)
        · rw [List.getElem?_eq_none (by simpa using hi)] at p2; cases p2
      · rw [List.getElem?_set_ne hj] at q1 p1
        rw [List.getElem?_set_ne hk] at q2 p2
        exact rel.inj j k e f c q1 q2 p1 p2
  · rcases (G.own_Z c).mp z with z | rfl
    · exact rel1.sep c hc z
    · exact nm hc
  · rcases List.mem_cons.mp hc with rfl | hc
    · exact fun q => nz (.inr q)
    · exact rel.sez c hc
  · rcases hc with hc | hc
    · exact rel1.trk c (.inl hc)
    · rcases (G.own_Z c).mp hc with z | rfl
      · exact rel1.trk c (.inr z)
      · exact ha
/-- name = value, anyone's; name = a new box of one's own -/
def sSet (i : Nat) (f : SE) : SS := fun ρ S => goS (f ρ S) ρ fun r S1 => if leakOk r = true then .nx (ρ.set i (some (r.1, .sh))) S1 else .bad
def sOwn (i : Nat) (f : SE) : SS := fun ρ S => goS (f ρ S) ρ fun r S1 => if r.2 = .own then .nx (ρ.set i (some (r.1, .own))) S1 else .bad
theorem rd_set {i : Nat} {f : SE} {D : Ends} {σ : St} {H : Hp} (h : rdS w W (sSet i f) D σ H) : tAsg (rdE w W f) (gName i) D σ H := by
  obtain ⟨g, ρ, S, rel, h⟩ := h
  refine rdE_imp (bindE rel h goodS) fun v H1 ⟨r1, S1, m1, s1, rel1, res1, _, h1⟩ => ?_
  split at h1
  · rename_i c
    exact h1 _ _ ⟨g.at m1, .refl _ _, rel1.set (res1.arg.rep c)⟩
  · exact h1.elim
theorem rd_own {i : Nat} {f : SE} {D : Ends} {σ : St} {H : Hp} (hi : i ≠ 0) (h : rdS w W (sOwn i f) D σ H) : tAsg (rdE w W f) (gName i) D σ H := by
  obtain ⟨g, ρ, S, rel, h⟩ := h
  refine rdE_imp (bindE0 rel h goodS) fun v H1 ⟨r1, S1, m1, s1, rel1, res1, h1⟩ => ?_
  obtain ⟨d, fl⟩ := r1
  split at h1
  · rename_i c
    cases c
    obtain ⟨a, rfl, hn, nm, nz, b, sto⟩ := res1
    exact h1 _ _ ⟨g.own m1 a, .own s1 hn, Rel.setOwn hi rel s1 rel1 hn nm nz b sto⟩
  · exact h1.elim
/-- a name of the def that may be stored -/
structure Sto (X : Cx) (i : Nat) (x : Str) : Prop where
  nd : X.N.Nodup
  at_ : X.N[i]? = some x
  loc : L2.Loc X.env.scope x
  hf : X.fn x = true ∨ X.env.scope.names.lookup x = some .local
theorem st_set {i : Nat} {x : Str} {e : Expr} {f : SE} {p pos : Pos} (o : Sto X i x) (hs : swapsWith e (some (.Name x p)) pos.line X.env = pure false) (he : PE X e (rdE w W f)) : PS X (.Assign [.Name x p] e pos) (rdS w W (sSet i f)) :=
  PS.imp (ps_set o.nd o.at_ o.loc he hs o.hf) fun _ _ _ h => rd_set h
theorem st_own {i : Nat} {x : Str} {e : Expr} {f : SE} {p pos : Pos} (hi : i ≠ 0) (o : Sto X i x) (hs : swapsWith e (some (.Name x p)) pos.line X.env = pure false) (he : PE X e (rdE w W f)) : PS X (.Assign [.Name x p] e pos) (rdS w W (sOwn i f)) :=
  PS.imp (ps_set o.nd o.at_ o.loc he hs o.hf) fun _ _ _ h => rd_own hi h
end
end DL

set_option maxRecDepth 100000
/-! The value layer: targets, while, for. -/
namespace DL
open PySem L2

/-- all values stay over a statement's step -/
theorem StepS.mono {g g' : G} {H H' : Hp} (s : StepS g H g' H') : Mono g.m g.Z H g'.m g'.Z H' := by
  have nm : ∀ a, H a ≠ none → a ∉ g.m → a ∉ g'.m := fun a h n q => by
    obtain ⟨ex, e, hx⟩ := s.ms
    rw [e] at q
    rcases List.mem_append.mp q with q | q
    · exact n q
    · exact h (hx _ q)
  have nz : ∀ a, H a ≠ none → ¬ g.Z a → ¬ g'.Z a := fun a h n q => by
    rcases q with q | q
    · rcases s.zo a q with q | q
      · exact n (.inl q)
      · exact h q
    · rw [s.zb] at q
      exact n (.inr q)
  have kp : ∀ a o, H a = some o → ¬ g.Z a → a ∉ g.m → (∀ ps, o ≠ .tbl ps) → H' a = some o := fun a o h z n t => s.keep a o h (.inl ⟨n, fun q => z (.inl q)⟩) t
  exact {
    tup := fun a xs h => s.keep _ _ h (.inr (.inl ⟨_, rfl⟩)) (fun _ q => by cases q)
    box := fun a u hb h z n => by
      refine ⟨?_, nz a (rd_ne h) z, nm a (rd_ne h) n⟩
      rcases h with h | ⟨o, h⟩
      · exact .inl (kp a _ h z n (boxO_tbl hb))
      · exact .inr ⟨o, kp a _ h z n (fun _ q => by cases q)⟩
    exa := fun a o ho h z n => ⟨kp a _ h z n (exO_tbl ho), nz a (by rw [h]; simp) z, nm a (by rw [h]; simp) n⟩
    frl := fun a o xs h => s.keep _ _ h (.inr (.inr (.inr (.inr ⟨_, _, rfl⟩)))) (fun _ q => by cases q)
    exc := fun a cls d h => s.keep _ _ h (.inr (.inr (.inl ⟨_, _, rfl⟩))) (fun _ q => by unfold ExcO at q; cases q)
    xd := fun a gs h => s.keep _ _ h (.inr (.inr (.inr (.inl ⟨_, rfl⟩)))) (fun _ q => by cases q)
    obj := fun n a h => by
      obtain ⟨ex, e, _⟩ := s.ms
      rw [e, List.getElem?_append_left (List.getElem?_eq_some_iff.mp h).1]
      exact h }

/-- .. beside others that are kept off -/
theorem Mono.ex {m m' : List Addr} {Z Z' : Addr → Prop} {H H' : Hp} (M : Mono m Z H m' Z' H') (P : Addr → Prop) : Mono m (fun b => Z b ∨ P b) H m' (fun b => Z' b ∨ P b) H' where
  tup := M.tup
  box := fun a u hb h z n => let ⟨x, y, k⟩ := M.box a u hb h (fun q => z (.inl q)) n; ⟨x, fun q => q.elim y fun q => z (.inr q), k⟩
  exa := fun a o ho h z n => let ⟨x, y, k⟩ := M.exa a o ho h (fun q => z (.inl q)) n; ⟨x, fun q => q.elim y fun q => z (.inr q), k⟩
  frl := M.frl
  exc := M.exc
  xd := M.xd
  obj := M.obj
section
variable {w : Wd} {W : WX} {X : Cx}
/-! ### targets -/
abbrev Tgt := D → Loc → Option Loc
/-- two frames are alike but at the slots ns -/
def But (ns : List Nat) (σ σ' : St) : Prop := σ'.length = σ.length ∧ ∀ j, j ∉ ns → σ'[j]? = σ[j]?
def rdG (w : Wd) (ns : List Nat) (f : Tgt) : TG := fun v σ H Q => ∃ g ρ S d ρ', Rel w g ρ S σ H ∧ Rep w g.m g.Z H d v ∧ f d ρ = some ρ' ∧ ∀ σ', Rel w g ρ' S σ' H → But ns σ σ' → Q σ' H
abbrev Tgts := List D → Loc → Option Loc
def rdGs (w : Wd) (ns : List Nat) (f : Tgts) : TGs := fun vs σ H Q => ∃ g ρ S ds ρ', Rel w g ρ S σ H ∧ Reps w g.m g.Z H ds vs ∧ f ds ρ = some ρ' ∧ ∀ σ', Rel w g ρ' S σ' H → But ns σ σ' → Q σ' H
theorem PG.imp {e : Expr} {t t' : TG} (h : PG X e t) (i : ∀ v σ H Q, t' v σ H Q → t v σ H Q) : PG X e t' := ⟨fun pins s σ H v u Q I r q => h.run pins s σ H v u Q I r (i _ _ _ _ q)⟩
theorem PGs.imp {e : List Expr} {t t' : TGs} (h : PGs X e t) (i : ∀ v σ H Q, t' v σ H Q → t v σ H Q) : PGs X e t' := ⟨fun pins s σ H v u Q I r q => h.run pins s σ H v u Q I r (i _ _ _ _ q)⟩
def gNm (i : Nat) : Tgt := fun d ρ => some (ρ.set i (some (d, .sh)))
def gNo : Tgts := fun ds ρ => match ds with
  | [] => some ρ
  | _ => none
def gAnd (t : Tgt) (ts : Tgts) : Tgts := fun ds ρ => match ds with
  | d :: r => (t d ρ).bind fun ρ1 => ts r ρ1
  | [] => none
def gTp (n : Nat) (ts : Tgts) : Tgt := fun d ρ => match d with
  | .tup ds => if ds.length = n then ts ds ρ else none
  | _ => none
theorem g_nm {i : Nat} {x : Str} {p : Pos} (o : Sto X i x) : PG X (.Name x p) (rdG w [i] (gNm i)) := by
  refine PG.imp (pg_name o.nd o.at_ o.loc o.hf) fun v σ H Q ⟨g, ρ, S, d, ρ', rel, r, e, h⟩ => ?_
  cases e
  exact h _ (rel.set r) ⟨List.length_set, fun j q => List.getElem?_set_ne fun z => q (by rw [z]; exact List.mem_cons_self)⟩
theorem g_no : PGs X [] (rdGs w [] gNo) := by
  refine PGs.imp pgs_nil fun v σ H Q ⟨g, ρ, S, ds, ρ', rel, r, e, h⟩ => ?_
  cases r with
  | nil => cases e; exact ⟨rfl, h _ rel ⟨rfl, fun _ _ => rfl⟩⟩
  | cons _ _ => cases e
theorem g_and {e : Expr} {es : List Expr} {ns ks : List Nat} {t : Tgt} {ts : Tgts} (hs : (assignEach (e :: es) X.env).map (·.2) = assign e X.env :: (assignEach es X.env).map (·.2)) (h1 : PG X e (rdG w ns t)) (h2 : PGs X es (rdGs w ks ts)) : PGs X (e :: es) (rdGs w (ns ++ ks) (gAnd t ts)) := by
  refine PGs.imp (pgs_cons h1 h2 hs) fun v σ H Q ⟨g, ρ, S, ds, ρ', rel, r, e, h⟩ => ?_
  cases r with
  | nil => cases e
  | cons r rs =>
    obtain ⟨ρ1, e1, e2⟩ := Option.bind_eq_some_iff.mp e
    exact ⟨_, _, rfl, g, ρ, S, _, ρ1, rel, r, e1, fun σ1 rel1 b1 => ⟨g, ρ1, S, _, ρ', rel1, rs, e2, fun σ2 rel2 b2 => h σ2 rel2 ⟨b2.1.trans b1.1, fun j q => (b2.2 j fun z => q (List.mem_append_right _ z)).trans (b1.2 j fun z => q (List.mem_append_left _ z))⟩⟩⟩
theorem g_tp {es : List Expr} {k : Nat} {p : Pos} {n : Nat} {ns : List Nat} {ts : Tgts} (hK : X.K = w.K) (hc : X.calm = true) (hn : (assignEach es X.env).length = n) (hst : (assignEach es X.env).findIdx? (·.1) = none) (h : PGs X es (rdGs w ns ts)) : PG X (.Tuple es k p) (rdG w ns (gTp n ts)) := by
  refine PG.imp (pg_tup (n := n) hc h hn hst) fun v σ H Q ⟨g, ρ, S, d, ρ', rel, r, e, h⟩ => ?_
  unfold gTp at e
  split at e
  · rename_i ds
    split at e
    · rename_i c
      obtain ⟨a, vs, rfl, ht, rs⟩ := Look.tup (.inl r)
      exact ⟨a, vs, rfl, hK ▸ ht, by rw [← rs.length]; exact c, g, ρ, S, ds, ρ', rel, rs, e, h⟩
    · cases e
  · cases e
/-- target = value -/
def sAsg (t : Tgt) (f : SE) : SS := fun ρ S => goS (f ρ S) ρ fun r S1 => if leakOk r = true then match t r.1 ρ with
    | some ρ' => .nx ρ' S1
    | none => .bad
  else .bad
theorem rd_asg {ns : List Nat} {t : Tgt} {f : SE} {D : Ends} {σ : St} {H : Hp} (h : rdS w W (sAsg t f) D σ H) : tAsg (rdE w W f) (rdG w ns t) D σ H := by
  obtain ⟨g, ρ, S, rel, h⟩ := h
  refine rdE_imp (bindE rel h goodS) fun v H1 ⟨r1, S1, m1, s1, rel1, res1, _, h1⟩ => ?_
  split at h1
  · rename_i c
    split at h1
    · rename_i ρ' e
      exact ⟨g.at m1, ρ, S1, r1.1, ρ', rel1, res1.arg.rep c, e, fun σ' rel' _ => h1 σ' H1 ⟨g.at m1, .refl _ _, rel'⟩⟩
    · exact h1.elim
  · exact h1.elim
theorem st_asg {tg e : Expr} {ns : List Nat} {t : Tgt} {f : SE} {pos : Pos} (hs : swapsWithSole [tg] e pos.line X.env = pure false) (hw : swappedStores [tg] e X.env = pure none) (h1 : (assignEach [tg] X.env).map (·.2) = [assign tg X.env]) (hg : PG X tg (rdG w ns t)) (he : PE X e (rdE w W f)) :
    PS X (.Assign [tg] e pos) (rdS w W (sAsg t f)) := PS.imp (ps_asg he hg hs hw h1) fun _ _ _ h => rd_asg h
/-- a, b = x, y -/
def sPar (i j : Nat) (fs : SA) : SS := fun ρ S => goS (fs ρ S) ρ fun rs S1 => match rs with
  | [r, q] => if leakOk r = true ∧ leakOk q = true then .nx ((ρ.set i (some (r.1, .sh))).set j (some (q.1, .sh))) S1 else .bad
  | _ => .bad
theorem st_par {i j : Nat} {x y : Str} {a b : Expr} {fs : SA} {px py pt pos : Pos} {kt k2 pt2} (hc : X.calm = true) (ox : Sto X i x) (oy : Sto X j y) (hij : i ≠ j) (hx : X.env.scope.names.lookup x = some .local) (hy : X.env.scope.names.lookup y = some .local)
    (hw : swappedStores [.Tuple [.Name x px, .Name y py] kt pt] (.Tuple [a, b] k2 pt2) X.env = pure (some [x, y])) (hs : swapsWithSole [.Tuple [.Name x px, .Name y py] kt pt] (.Tuple [a, b] k2 pt2) pos.line X.env = pure false)
    (ha : PA X [a, b] (rdA w W fs)) : PS X (.Assign [.Tuple [.Name x px, .Name y py] kt pt] (.Tuple [a, b] k2 pt2) pos) (rdS w W (sPar i j fs)) := by
  refine PS.imp (ps_par hc ox.nd ox.at_ oy.at_ hij hx hy ha hw hs) fun D σ H ⟨g, ρ, S, rel, h⟩ => ?_
  refine rdA_imp (bindA rel h goodS) fun vs H1 ⟨rs, S1, m1, s1, rel1, as, _, h1⟩ => ?_
  cases as with
  | nil => exact h1.elim
  | cons r t =>
    cases t with
    | nil => exact h1.elim
    | cons q t =>
      cases t with
      | cons _ _ => exact h1.elim
      | nil =>
        dsimp only at h1
        split at h1
        · rename_i c
          exact ⟨_, _, rfl, h1 _ _ ⟨g.at m1, .refl _ _, (rel1.set (r.rep c.1)).set (q.rep c.2)⟩⟩
        · exact h1.elim

/-! ### while -/
def whileI (t : ST) (b : SS) : Nat → Loc → Store → O
  | 0, _, _ => .bad
  | n + 1, ρ, S => goS (t ρ S) ρ fun c S1 => if c = true then match b ρ S1 with
      | .nx ρ2 S2 => whileI t b n ρ2 S2
      | .ct ρ2 S2 => whileI t b n ρ2 S2
      | .bk ρ2 S2 => .nx ρ2 S2
      | o => o
    else .nx ρ S1
open Classical in
noncomputable def sWhile (t : ST) (b : SS) : SS := fun ρ S => if h : ∃ n, whileI t b n ρ S ≠ .bad then whileI t b h.choose ρ S else .bad
theorem whileI_more {t : ST} {b : SS} : ∀ {n : Nat} {ρ : Loc} {S : Store}, whileI t b n ρ S ≠ .bad → whileI t b (n + 1) ρ S = whileI t b n ρ S
  | 0, _, _, h => absurd rfl h
  | n + 1, ρ, S, h => by
    rw [whileI] at h ⊢
    rw [whileI]
    cases e : t ρ S with
    | exc x S1 => rfl
    | bad => rfl
    | ok c S1 =>
      rw [e] at h
      simp only [goS, R.go] at h ⊢
      cases c with
      | false => rfl
      | true =>
        simp only [if_true] at h ⊢
        cases e2 : b ρ S1 with
        | nx ρ2 S2 => rw [e2] at h; exact whileI_more (n := n) h
        | ct ρ2 S2 => rw [e2] at h; exact whileI_more (n := n) h
        | rt r S2 => rfl
        | bk ρ2 S2 => rfl
        | ex x ρ2 S2 => rfl
        | bad => rfl
theorem whileI_le {t : ST} {b : SS} {n k : Nat} {ρ : Loc} {S : Store} (h : whileI t b n ρ S ≠ .bad) (hk : n ≤ k) : whileI t b k ρ S = whileI t b n ρ S := by
  induction hk with
  | refl => rfl
  | step _ ih => rw [whileI_more (by rw [ih]; exact h), ih]
theorem sWhile_of {t : ST} {b : SS} {n : Nat} {ρ : Loc} {S : Store} (h : whileI t b n ρ S ≠ .bad) : sWhile t b ρ S = whileI t b n ρ S := by
  have hx : ∃ n, whileI t b n ρ S ≠ .bad := ⟨n, h⟩
  unfold sWhile
  rw [dif_pos hx]
  rcases Nat.le_total hx.choose n with l | l
  · exact (whileI_le hx.choose_spec l).symm
  · exact whileI_le h l
/-- the loop, one turn opened -/
theorem sWhile_eq {t : ST} {b : SS} {ρ : Loc} {S : Store} : sWhile t b ρ S = goS (t ρ S) ρ fun c S1 => if c = true then match b ρ S1 with
      | .nx ρ2 S2 => sWhile t b ρ2 S2
      | .ct ρ2 S2 => sWhile t b ρ2 S2
      | .bk ρ2 S2 => .nx ρ2 S2
      | o => o
    else .nx ρ S1 := by
  have key : ∀ ρ2 S2, (∀ n, whileI t b n ρ2 S2 = .bad) → sWhile t b ρ2 S2 = .bad := fun ρ2 S2 h => by
    unfold sWhile
    rw [dif_neg fun ⟨n, q⟩ => q (h n)]
  cases e : t ρ S with
  | exc x S1 => rw [sWhile_of (n := 1) (by rw [whileI, e]; simp [goS, R.go]), whileI, e]; rfl
  | bad => exact key _ _ fun n => by cases n with | zero => rfl | succ n => rw [whileI, e]; rfl
  | ok c S1 =>
    cases c with
    | false => rw [sWhile_of (n := 1) (by rw [whileI, e]; simp [goS, R.go]), whileI, e]; rfl
    | true =>
      simp only [goS, R.go, if_true]
      have one : ∀ n, whileI t b (n + 1) ρ S = match b ρ S1 with
          | .nx ρ2 S2 => whileI t b n ρ2 S2
          | .ct ρ2 S2 => whileI t b n ρ2 S2
          | .bk ρ2 S2 => .nx ρ2 S2
          | o => o := fun n => by rw [whileI, e]; rfl
      cases e2 : b ρ S1 with
      | nx ρ2 S2 =>
        rw [e2] at one
        by_cases hx : ∃ n, whileI t b n ρ2 S2 ≠ .bad
        · obtain ⟨n, hn⟩ := hx
          rw [sWhile_of (n := n + 1) (by rw [one]; exact hn), one]
          exact (sWhile_of hn).symm
        · have hb : ∀ n, whileI t b n ρ2 S2 = .bad := fun n => Classical.byContradiction fun q => hx ⟨n, q⟩
          rw [key _ _ fun n => by cases n with | zero => rfl | succ n => rw [one]; exact hb n]
          exact (key _ _ hb).symm
      | ct ρ2 S2 =>
        rw [e2] at one
        by_cases hx : ∃ n, whileI t b n ρ2 S2 ≠ .bad
        · obtain ⟨n, hn⟩ := hx
          rw [sWhile_of (n := n + 1) (by rw [one]; exact hn), one]
          exact (sWhile_of hn).symm
        · have hb : ∀ n, whileI t b n ρ2 S2 = .bad := fun n => Classical.byContradiction fun q => hx ⟨n, q⟩
          rw [key _ _ fun n => by cases n with | zero => rfl | succ n => rw [one]; exact hb n]
          exact (key _ _ hb).symm
      | rt r S2 => rw [e2] at one; rw [sWhile_of (n := 1) (by rw [one]; simp), one]
      | bk ρ2 S2 => rw [e2] at one; rw [sWhile_of (n := 1) (by rw [one]; simp), one]
      | ex x ρ2 S2 => rw [e2] at one; rw [sWhile_of (n := 1) (by rw [one]; simp), one]
      | bad => rw [e2] at one; exact key _ _ fun n => by cases n with | zero => rfl | succ n => rw [one]
theorem st_while {c : Expr} {body : List Stmt} {t : ST} {b : SS} {pos : Pos} (hp : PassesOwn (model X.prog X.w) X.A X.env X.xe) (hc : PT X c (rdT w W t)) (hb : PSs X body (rdS w W b)) : PS X (.While c body [] pos) (rdS w W (sWhile t b)) := by
  refine PS.imp (ps_while hp hc hb) fun D σ H ⟨g, ρ, S, rel, h⟩ => ?_
  have hx : ∃ n, whileI t b n ρ S ≠ .bad := Classical.byContradiction fun q => by
    unfold sWhile at h
    rw [dif_neg q] at h
    exact h
  obtain ⟨n, hn⟩ := hx
  rw [sWhile_of hn] at h
  refine ⟨fun m σ H => ∃ g ρ S, Rel w g ρ S σ H ∧ PostS w W D g H (whileI t b m ρ S), ⟨n, g, ρ, S, rel, h⟩, ?_⟩
  rintro m σ H ⟨g, ρ, S, rel, h⟩
  cases m with
  | zero => exact h.elim
  | succ m =>
    rw [whileI] at h
    refine rdT_imp (bindT rel h goodS) fun k H1 ⟨S1, m1, s1, rel1, _, h1⟩ => ?_
    cases k with
    | false => exact h1 σ H1 ⟨g.at m1, .refl _ _, rel1⟩
    | true =>
      refine ⟨fun σ' H' => ∃ g ρ S, Rel w g ρ S σ' H' ∧ PostS w W D g H' (whileI t b m ρ S), fun σ' H' q => ⟨m, Nat.lt_succ_self m, q⟩, g.at m1, ρ, S1, rel1, ?_⟩
      have h1' : PostS w W D (g.at m1) H1 (match b ρ S1 with
          | .nx ρ2 S2 => whileI t b m ρ2 S2
          | .ct ρ2 S2 => whileI t b m ρ2 S2
          | .bk ρ2 S2 => .nx ρ2 S2
          | o => o) := h1
      cases e2 : b ρ S1 with
      | nx ρ2 S2 => rw [e2] at h1'; exact fun σ' H' ⟨g', a, r⟩ => ⟨g', ρ2, S2, r, h1'.step a⟩
      | ct ρ2 S2 => rw [e2] at h1'; exact fun σ' H' ⟨g', a, r⟩ => ⟨g', ρ2, S2, r, h1'.step a⟩
      | rt r S2 => rw [e2] at h1'; exact h1'
      | bk ρ2 S2 => rw [e2] at h1'; exact h1'
      | ex x ρ2 S2 => rw [e2] at h1'; exact h1'
      | bad => rw [e2] at h1'; exact h1'
end
end DL

set_option maxRecDepth 100000
/-! The value layer: what is walked; for. -/
namespace DL
open PySem L2

/-- the walk J, begun at g and H, gives ds one after another -/
structure Walk (w : Wd) (g : G) (H : Hp) (J : It) (ds : List D) : Prop where
  go : ∀ i g' H', i < ds.length → StepS g H g' H' → J.go i H'
  yl : ∀ i g' H' x Hx, StepS g H g' H' → J.yld i H' x Hx → (Hx = H' ∨ ∃ p t, H' p = none ∧ Hx = upd H' p (.tup t)) ∧ ∀ d, ds[i]? = some d → ∀ P : Addr → Prop, (∀ b, P b → H b = none) → Rep w g'.m (fun b => g'.Z b ∨ P b) Hx d x
  st : ∀ i g' H', ds.length ≤ i → StepS g H g' H' → J.stop i H'
section
variable {w : Wd} {W : WX} {X : Cx}
abbrev SI := Loc → Store → R (List D)
def PostI (w : Wd) (W : WX) (ρ : Loc) (σ : St) (Q : It → Hp → Prop) (g : G) (H : Hp) (t : R (List D)) : Prop := match t with
  | .ok ds S' => ∀ J H', (∃ m', StepE g.m H m' H' ∧ Rel w (g.at m') ρ S' σ H' ∧ Walk w (g.at m') H' J ds) → Q J H'
  | .exc x S' => ∀ cls dd H', XOk w g H ρ σ x S' cls dd H' → W cls dd σ H'
  | .bad => False
theorem goodI {ρ : Loc} {σ : St} {Q : It → Hp → Prop} : Good w W ρ σ R.exc R.bad (PostI w W ρ σ Q) where
  step := fun g H m1 H1 t s p => by
    cases t with
    | ok r S => exact fun J H' ⟨m', a, b⟩ => p J H' ⟨m', s.trans a, b⟩
    | exc x S => exact fun cls dd H' q => p cls dd H' (q.trans s)
    | bad => exact p
  exc := fun _ _ _ _ p => p
  bad := fun _ _ p => p
def rdI (w : Wd) (W : WX) (f : SI) : TI := fun σ H Q => ∃ g ρ S, Rel w g ρ S σ H ∧ PostI w W ρ σ Q g H (f ρ S)
theorem PI.imp {tg e : Expr} {t t' : TI} (h : PI X tg e t) (i : ∀ σ H R, t' σ H R → t σ H R) : PI X tg e t' := ⟨fun pins s σ H R I q => h.run pins s σ H R I (i _ _ _ q)⟩
theorem PI.or {tg e : Expr} {t t' : TI} (h : PI X tg e t) (h' : PI X tg e t') : PI X tg e (fun σ H R => t σ H R ∨ t' σ H R) := ⟨fun pins s σ H R I q => q.elim (h.run pins s σ H R I) (h'.run pins s σ H R I)⟩
theorem bindI {ρ : Loc} {σ : St} {T : Type} {ex : D → Store → T} {bd : T} {P : G → Hp → T → Prop} {g : G} {S : Store} {H : Hp} {f : SI} {k : List D → Store → T} (rel : Rel w g ρ S σ H) (h : P g H ((f ρ S).go ex bd k)) (gd : Good w W ρ σ ex bd P) :
    rdI w W f σ H fun J H1 => ∃ ds S1 m1, StepE g.m H m1 H1 ∧ Rel w (g.at m1) ρ S1 σ H1 ∧ Walk w (g.at m1) H1 J ds ∧ P g H (k ds S1) := by
  refine ⟨g, ρ, S, rel, ?_⟩
  cases e : f ρ S with
  | ok r S1 =>
    rw [e] at h
    exact fun J H1 ⟨m1, s, r', wk⟩ => ⟨r, S1, m1, s, r', wk, h⟩
  | exc x S1 => rw [e] at h; exact gd.exc _ _ _ _ h
  | bad => rw [e] at h; exact gd.bad _ _ h
theorem rdI_imp {f : SI} {σ : St} {H : Hp} {Q Q' : It → Hp → Prop} (h : rdI w W f σ H Q) (i : ∀ v H', Q v H' → Q' v H') : rdI w W f σ H Q' := by
  obtain ⟨g, ρ, S, r, h⟩ := h
  refine ⟨g, ρ, S, r, ?_⟩
  cases e : f ρ S with
  | ok r S' => rw [e] at h; exact fun v H' q => i v H' (h v H' q)
  | exc x S' => rw [e] at h; exact h
  | bad => rw [e] at h; exact h

/-! ### sequences -/
def signs (x : String) : List D := x.toList.map fun c => .str (String.singleton c)
def seqOf (r : RV) : Option (List D) := match r.1 with
  | .lst ds => if r.2 = .mine then none else some ds
  | .tup ds => some ds
  | .frl ds => some ds
  | .ftp ds => some ds
  | .str x => some (signs x)
  | _ => none
def sSeqI (f : SE) : SI := fun ρ S => (f ρ S).bind fun r S1 => match seqOf r with
  | some ds => .ok ds S1
  | none => .bad
theorem walk_list {g : G} {H : Hp} {a : Addr} {ds : List D} {vs : List V} {K : PySem.W.Frag} (hl : H a = some (.lst vs)) (r : Reps w g.m g.Z H ds vs) (nm : a ∉ g.m) (nz : a ∉ g.zo) : Walk w g H (Itl K a) ds := by
  have keep : ∀ g' H', StepS g H g' H' → H' a = some (.lst vs) := fun g' H' s => s.keep _ _ hl (.inl ⟨nm, nz⟩) (fun _ q => by cases q)
  have hlen := r.length
  refine ⟨fun i g' H' hi s => ?_, fun i g' H' x Hx s y => ⟨.inl y.1, fun d hd P hP => ?_⟩, fun i g' H' hi s => ⟨vs, .of (keep _ _ s), by rw [← hlen]; exact hi⟩⟩
  · exact ⟨vs, vs[i]'(by rw [← hlen]; exact hi), .of (keep _ _ s), by simp [← hlen, hi]⟩
  · obtain ⟨v, hv, rv⟩ := r.get hd
    have e := y.2 vs (.of (keep _ _ s))
    rw [hv] at e
    cases e
    rw [y.1]
    exact (rv.mono (mono_z fun b q => q.imp id (hP b))).mono (s.mono.ex P)
theorem walk_tup {g : G} {H : Hp} {a : Addr} {ds : List D} {vs : List V} {K : PySem.W.Frag} (hl : H a = some (.tup vs) ∨ KTup K a vs) (r : Reps w g.m g.Z H ds vs) : Walk w g H (Itt K a) ds := by
  have keep : ∀ g' H', StepS g H g' H' → SqT K H' a vs := fun g' H' s => hl.elim (fun h => .of (s.keep _ _ h (.inr (.inl ⟨_, rfl⟩)) (fun _ q => by cases q))) KTup.sq
  have hlen := r.length
  refine ⟨fun i g' H' hi s => ?_, fun i g' H' x Hx s y => ⟨.inl y.1, fun d hd P hP => ?_⟩, fun i g' H' hi s => ⟨vs, keep _ _ s, by rw [← hlen]; exact hi⟩⟩
  · exact ⟨vs, vs[i]'(by rw [← hlen]; exact hi), keep _ _ s, by simp [← hlen, hi]⟩
  · obtain ⟨v, hv, rv⟩ := r.get hd
    have e := y.2 vs (keep _ _ s)
    rw [hv] at e
    cases e
    rw [y.1]
    exact (rv.mono (mono_z fun b q => q.imp id (hP b))).mono (s.mono.ex P)
theorem walk_frl {g : G} {H : Hp} {a : Addr} {ds : List D} {vs : List V} {K : PySem.W.Frag} (hl : (∃ o, H a = some (.frz o (.lst vs))) ∨ KLst K a vs) (r : Reps w g.m g.Z H ds vs) : Walk w g H (Itl K a) ds := by
  have keep : ∀ g' H', StepS g H g' H' → SqL K H' a vs := fun g' H' s => hl.elim (fun ⟨o, h⟩ => .inl (.inr ⟨o, s.keep _ _ h (.inr (.inr (.inr (.inr ⟨_, (true, vs), rfl⟩)))) (fun _ q => by cases q)⟩)) KLst.sq
  have hlen := r.length
  refine ⟨fun i g' H' hi s => ?_, fun i g' H' x Hx s y => ⟨.inl y.1, fun d hd P hP => ?_⟩, fun i g' H' hi s => ⟨vs, keep _ _ s, by rw [← hlen]; exact hi⟩⟩
  · exact ⟨vs, vs[i]'(by rw [← hlen]; exact hi), keep _ _ s, by simp [← hlen, hi]⟩
  · obtain ⟨v, hv, rv⟩ := r.get hd
    have e := y.2 vs (keep _ _ s)
    rw [hv] at e
    cases e
    rw [y.1]
    exact (rv.mono (mono_z fun b q => q.imp id (hP b))).mono (s.mono.ex P)
theorem walk_ftp {g : G} {H : Hp} {a : Addr} {ds : List D} {vs : List V} {K : PySem.W.Frag} (hl : ∃ o, H a = some (.frz o (.tup vs))) (r : Reps w g.m g.Z H ds vs) : Walk w g H (Itt K a) ds := by
  have keep : ∀ g' H', StepS g H g' H' → SqT K H' a vs := fun g' H' s => let ⟨o, h⟩ := hl; .inl (.inr ⟨o, s.keep _ _ h (.inr (.inr (.inr (.inr ⟨_, (false, vs), rfl⟩)))) (fun _ q => by cases q)⟩)
  have hlen := r.length
  refine ⟨fun i g' H' hi s => ?_, fun i g' H' x Hx s y => ⟨.inl y.1, fun d hd P hP => ?_⟩, fun i g' H' hi s => ⟨vs, keep _ _ s, by rw [← hlen]; exact hi⟩⟩
  · exact ⟨vs, vs[i]'(by rw [← hlen]; exact hi), keep _ _ s, by simp [← hlen, hi]⟩
  · obtain ⟨v, hv, rv⟩ := r.get hd
    have e := y.2 vs (keep _ _ s)
    rw [hv] at e
    cases e
    rw [y.1]
    exact (rv.mono (mono_z fun b q => q.imp id (hP b))).mono (s.mono.ex P)
theorem walk_str {g : G} {H : Hp} {x : String} : Walk w g H (Its (s2 x)) (signs x) := by
  have hl : (signs x).length = (s2 x).cps.size := by unfold signs; rw [s2_cps]; simp
  refine ⟨fun i g' H' hi s => ?_, fun i g' H' v Hx s y => ⟨.inl y.1, fun d hd P hP => ?_⟩, fun i g' H' hi s => ?_⟩
  · show i < (s2 x).cps.size
    rw [← hl]; exact hi
  · obtain ⟨e, c, hc, rfl⟩ := y
    unfold signs at hd
    rw [List.getElem?_map] at hd
    obtain ⟨ch, hch, rfl⟩ := Option.map_eq_some_iff.mp hd
    have : c = ch.toNat := by
      rw [s2_cps] at hc
      simp only [List.getElem?_toArray, List.getElem?_map, hch, Option.map_some, Option.some.injEq] at hc
      exact hc.symm
    subst this
    rw [← s2_single]
    exact .str _
  · show (s2 x).cps.size ≤ i
    rw [← hl]; exact hi
theorem i_seq {tg e : Expr} {f : SE} (hK : X.K = w.K) (he : PE X e (rdE w W f)) : PI X tg e (rdI w W (sSeqI f)) := by
  refine PI.imp (PI.or (pi_list he) (PI.or (pi_tup he) (pi_str he))) fun σ H R ⟨g, ρ, S, rel, h⟩ => ?_
  -- which of them is seen by what the expression comes to
  have main : ∀ {r S1}, f ρ S = .ok r S1 → ∀ ds, seqOf r = some ds → PostI w W ρ σ R g H (.ok ds S1) → (∀ Q, (∀ v H1 m1, StepE g.m H m1 H1 → Rel w (g.at m1) ρ S1 σ H1 → Res w (g.at m1) H r S1 v H1 → Q v H1) → rdE w W f σ H Q) →
      iList X.K (rdE w W f) σ H R ∨ iTup X.K (rdE w W f) σ H R ∨ iStr (rdE w W f) σ H R := by
    intro r S1 e1 ds e2 hp run
    obtain ⟨d, fl⟩ := r
    unfold seqOf at e2
    dsimp only at e2
    split at e2
    · split at e2
      · cases e2
      · rename_i ds' nf
        cases e2
        refine .inl (run _ fun v H1 m1 s1 rel1 res1 => ?_)
        have bx : ∃ a vs, v = .ref a ∧ H1 a = some (.lst vs) ∧ Reps w m1 g.Z H1 ds vs ∧ a ∉ m1 ∧ a ∉ g.zo := by
          have of_rep : Rep w m1 g.Z H1 (.lst ds) v → ∃ a vs, v = .ref a ∧ H1 a = some (.lst vs) ∧ Reps w m1 g.Z H1 ds vs ∧ a ∉ m1 ∧ a ∉ g.zo := fun q => by
            cases q with
            | box b z n => cases b with | lst hq rr => exact ⟨_, _, rfl, hq, rr, n, fun q => z (.inl q)⟩
          cases fl with
          | sh => exact of_rep res1
          | own => exact of_rep (Res.arg res1)
          | mine => exact absurd rfl nf
          | bor =>
            rcases res1 with q | ⟨a, e, b, n, z⟩
            · exact of_rep q
            · cases b with | lst hq rr => exact ⟨a, _, e, hq, rr, n, z⟩
        obtain ⟨a, vs, rfl, hl, rr, nm, nz⟩ := bx
        exact ⟨a, rfl, ⟨vs, .of hl⟩, hp _ _ ⟨m1, s1, rel1, walk_list hl rr nm nz⟩⟩
    · rename_i ds'
      cases e2
      refine .inr (.inl (run _ fun v H1 m1 s1 rel1 res1 => ?_))
      have lk := (Res.arg res1).read.look.rep rfl
      cases lk with
      | tup hq rr => exact ⟨_, rfl, ⟨_, .of hq⟩, hp _ _ ⟨m1, s1, rel1, walk_tup (.inl hq) rr⟩⟩
      | gtup hq rr _ => exact ⟨_, rfl, ⟨_, hK ▸ hq.sq⟩, hp _ _ ⟨m1, s1, rel1, walk_tup (.inr (hK ▸ hq)) rr⟩⟩
      | box b => cases b
    · rename_i ds'
      cases e2
      refine .inl (run _ fun v H1 m1 s1 rel1 res1 => ?_)
      have lk := (Res.arg res1).read.look.rep rfl
      cases lk with
      | frl hq rr => exact ⟨_, rfl, ⟨_, .inl (.inr ⟨_, hq⟩)⟩, hp _ _ ⟨m1, s1, rel1, walk_frl (.inl ⟨_, hq⟩) rr⟩⟩
      | gfrl hq rr => exact ⟨_, rfl, ⟨_, hK ▸ hq.sq⟩, hp _ _ ⟨m1, s1, rel1, walk_frl (.inr (hK ▸ hq)) rr⟩⟩
      | box b => cases b
    · rename_i ds'
      cases e2
      refine .inr (.inl (run _ fun v H1 m1 s1 rel1 res1 => ?_))
      have lk := (Res.arg res1).read.look.rep rfl
      cases lk with
      | ftp hq _ rr => exact ⟨_, rfl, ⟨_, .inl (.inr ⟨_, hq⟩)⟩, hp _ _ ⟨m1, s1, rel1, walk_ftp ⟨_, hq⟩ rr⟩⟩
      | box b => cases b
    · rename_i x'
      cases e2
      refine .inr (.inr (run _ fun v H1 m1 s1 rel1 res1 => ?_))
      have lk : Look w m1 g.Z H1 (.str x') v := (Res.arg res1).read.look
      exact ⟨_, lk.str, hp _ _ ⟨m1, s1, rel1, walk_str⟩⟩
    · cases e2
  cases e : f ρ S with
  | ok r S1 =>
    have h' : PostI w W ρ σ R g H (match seqOf r with | some ds => .ok ds S1 | none => .bad) := by
      unfold sSeqI at h; rw [e] at h; exact h
    cases e2 : seqOf r with
    | none => rw [e2] at h'; exact h'.elim
    | some ds =>
      rw [e2] at h'
      refine main e ds e2 h' fun Q q => ⟨g, ρ, S, rel, ?_⟩
      rw [e]
      exact fun v H1 ⟨m1, s1, rel1, res1⟩ => q v H1 m1 s1 rel1 res1
  | exc x S1 =>
    refine .inl ⟨g, ρ, S, rel, ?_⟩
    unfold sSeqI at h
    rw [e] at h ⊢
    exact h
  | bad => unfold sSeqI at h; rw [e] at h; exact h.elim

/-! ### range -/
def rngD (lo : Int) (n : Nat) : List D := (List.range n).map fun i => .int (lo + (i : Nat))
theorem walk_rng {g : G} {H : Hp} {lo : Int} {n : Nat} : Walk w g H (Itr lo n) (rngD lo n) := by
  have hl : (rngD lo n).length = n := by simp [rngD]
  refine ⟨fun i g' H' hi s => by rw [hl] at hi; exact hi, fun i g' H' v Hx s y => ⟨.inl y.1, fun d hd P hP => ?_⟩, fun i g' H' hi s => by rw [hl] at hi; exact hi⟩
  obtain ⟨e, rfl⟩ := y
  unfold rngD at hd
  rw [List.getElem?_map] at hd
  obtain ⟨j, hj, rfl⟩ := Option.map_eq_some_iff.mp hd
  have : j = i := by
    obtain ⟨h1, h2⟩ := List.getElem?_eq_some_iff.mp hj
    rw [List.getElem_range] at h2
    exact h2.symm
  subst this
  exact .int _
def sRng1 (fs : SA) : SI := fun ρ S => (fs ρ S).bind fun rs S1 => match rs with
  | [(.int j, _)] => if -(2 ^ 62) ≤ j ∧ j < 2 ^ 62 then .ok (rngD 0 j.toNat) S1 else .bad
  | _ => .bad
def sRng2 (fs : SA) : SI := fun ρ S => (fs ρ S).bind fun rs S1 => match rs with
  | [(.int i, _), (.int j, _)] => if -(2 ^ 62) ≤ i ∧ i < 2 ^ 62 ∧ -(2 ^ 62) ≤ j ∧ j < 2 ^ 62 then .ok (rngD i (j - i).toNat) S1 else .bad
  | _ => .bad
theorem Arg.int {m : List Addr} {Z : Addr → Prop} {H : Hp} {i : Int} {fl : Fl} {v : V} (h : Arg w m Z H (.int i, fl) v) : v = .int i := h.read.look.int
theorem i_rng1 {tg a : Expr} {fs : SA} {p pos : Pos} (b : BN X "range" (.type "range")) (hs : starEach [a] X.env = [(false, eval a X.env)]) (ha : PA X [a] (rdA w W fs)) : PI X tg (.Call (.Name "range" p) [a] [] pos) (rdI w W (sRng1 fs)) := by
  refine PI.imp (pi_range1 b.gl b.mg ha hs) fun σ H R ⟨g, ρ, S, rel, h⟩ => ?_
  refine rdA_imp (bindA rel h goodI) fun vs H1 ⟨rs, S1, m1, s1, rel1, as, _, h1⟩ => ?_
  split at h1
  · rename_i j fl _
    split at h1
    · rename_i c
      cases as with
      | cons a t =>
        cases t
        exact ⟨j, by rw [a.int], c.1, c.2, h1 _ _ ⟨m1, .refl _ _, rel1, walk_rng⟩⟩
    · exact h1.elim
  · exact h1.elim
theorem i_rng2 {tg a b : Expr} {fs : SA} {p pos : Pos} (bn : BN X "range" (.type "range")) (hs : starEach [a, b] X.env = [(false, eval a X.env), (false, eval b X.env)]) (hs2 : starEach [b] X.env = [(false, eval b X.env)]) (ha : PA X [a, b] (rdA w W fs)) : PI X tg (.Call (.Name "range" p) [a, b] [] pos) (rdI w W (sRng2 fs)) := by
  refine PI.imp (pi_range2 bn.gl bn.mg ha hs hs2) fun σ H R ⟨g, ρ, S, rel, h⟩ => ?_
  refine rdA_imp (bindA rel h goodI) fun vs H1 ⟨rs, S1, m1, s1, rel1, as, _, h1⟩ => ?_
  split at h1
  · rename_i i fi j fj _
    split at h1
    · rename_i c
      cases as with
      | cons a t =>
        cases t with
        | cons b t =>
          cases t
          exact ⟨i, j, by rw [a.int, b.int], c, h1 _ _ ⟨m1, .refl _ _, rel1, walk_rng⟩⟩
    · exact h1.elim
  · exact h1.elim
end
end DL

set_option maxRecDepth 100000
/-! The value layer: for; list comprehensions. -/
namespace DL
open PySem L2
section
variable {w : Wd} {W : WX} {X : Cx}
def forI (t : Tgt) (b : SS) : List D → Loc → Store → O
  | [], ρ, S => .nx ρ S
  | d :: ds, ρ, S => match t d ρ with
    | none => .bad
    | some ρ1 => match b ρ1 S with
      | .nx ρ2 S2 => forI t b ds ρ2 S2
      | .ct ρ2 S2 => forI t b ds ρ2 S2
      | .bk ρ2 S2 => .nx ρ2 S2
      | o => o
def sFor (f : SI) (t : Tgt) (b : SS) : SS := fun ρ S => goS (f ρ S) ρ fun ds S1 => forI t b ds ρ S1
/-- what a walk gives is there -/
theorem Walk.item {g g' : G} {H H' Hx : Hp} {J : It} {ds : List D} {i : Nat} {x : V} {d : D} {ρ : Loc} {S : Store} {σ : St} (wk : Walk w g H J ds) (s : StepS g H g' H') (y : J.yld i H' x Hx) (hd : ds[i]? = some d) (rel : Rel w g' ρ S σ H') :
    Rel w g' ρ S σ Hx ∧ StepE g'.m H' g'.m Hx ∧ ∀ P : Addr → Prop, (∀ b, P b → H b = none) → Rep w g'.m (fun b => g'.Z b ∨ P b) Hx d x := by
  obtain ⟨q, r⟩ := wk.yl i g' H' x Hx s y
  refine ⟨?_, ?_, r d hd⟩
  · rcases q with rfl | ⟨p, t, n, rfl⟩
    · exact rel
    · exact rel.new n
  · rcases q with rfl | ⟨p, t, n, rfl⟩
    · exact .refl _ _
    · exact .new n
theorem Rep.un {m : List Addr} {Z : Addr → Prop} {H : Hp} {d : D} {x : V} (h : ∀ P : Addr → Prop, (∀ b, P b → H b = none) → Rep w m (fun b => Z b ∨ P b) H d x) : Rep w m Z H d x :=
  (h (fun _ => False) (fun _ q => q.elim)).mono (mono_z fun b q => .inl (.inl q))
theorem st_for {iter tg : Expr} {body : List Stmt} {ns : List Nat} {f : SI} {t : Tgt} {b : SS} {pos : Pos} (hp : PassesOwn (model X.prog X.w) X.A X.env X.xe) (hc : X.calm = true) (hs : ∀ x, foldedSetIterable iter X.env x = pure x) (hi : PI X tg iter (rdI w W f)) (hg : PG X tg (rdG w ns t)) (hb : PSs X body (rdS w W b)) :
    PS X (.For tg iter body [] pos) (rdS w W (sFor f t b)) := by
  refine PS.imp (ps_for hp hc hi hg hb hs) fun D σ H ⟨g, ρ, S, rel, h⟩ => ?_
  refine rdI_imp (bindI rel h goodS) fun J H1 ⟨ds, S1, m1, s1, rel1, wk, h1⟩ => ?_
  have h1 : PostS w W D (g.at m1) H1 (forI t b ds ρ S1) := h1.step s1.toS
  refine ⟨fun i m σ' H' => m + i = ds.length ∧ ∃ g' ρ' S', StepS (g.at m1) H1 g' H' ∧ Rel w g' ρ' S' σ' H' ∧ PostS w W D g' H' (forI t b (ds.drop i) ρ' S'), ⟨ds.length, rfl, g.at m1, ρ, S1, .refl _ _, rel1, h1⟩, ?_⟩
  rintro i m σ' H' ⟨hm, g', ρ', S', st, rel', post⟩
  by_cases hi : i < ds.length
  · right
    refine ⟨wk.go i g' H' hi st, fun σ'' H'' => m - 1 + (i + 1) = ds.length ∧ ∃ g' ρ' S', StepS (g.at m1) H1 g' H'' ∧ Rel w g' ρ' S' σ'' H'' ∧ PostS w W D g' H'' (forI t b (ds.drop (i + 1)) ρ' S'), fun σ'' H'' q => ⟨m - 1, by omega, q⟩, fun x Hx y => ?_⟩
    have hd : ds[i]? = some ds[i] := by simp [hi]
    obtain ⟨relx, sx, rx⟩ := wk.item st y hd rel'
    have post : PostS w W D g' Hx (forI t b (ds.drop i) ρ' S') := post.step (g1 := g'.at g'.m) sx.toS
    rw [List.drop_eq_getElem_cons hi, forI] at post
    cases e : t ds[i] ρ' with
    | none => rw [e] at post; exact post.elim
    | some ρ1 =>
      rw [e] at post
      have rx0 : Rep w g'.m g'.Z Hx ds[i] x := (rx (fun _ => False) (fun _ q => q.elim)).mono (mono_z fun b q => .inl (.inl q))
      refine ⟨g', ρ', S', _, ρ1, relx, rx0, e, fun σ2 rel2 _ => ⟨g', ρ1, S', rel2, ?_⟩⟩
      dsimp only at post
      have stx : StepS (g.at m1) H1 g' Hx := st.trans (g2 := g') (g3 := g'.at g'.m) sx.toS
      cases e2 : b ρ1 S' with
      | nx ρ2 S2 => rw [e2] at post; exact fun σ3 H3 ⟨g3, st3, rel3⟩ => ⟨by omega, g3, ρ2, S2, stx.trans st3, rel3, post.step st3⟩
      | ct ρ2 S2 => rw [e2] at post; exact fun σ3 H3 ⟨g3, st3, rel3⟩ => ⟨by omega, g3, ρ2, S2, stx.trans st3, rel3, post.step st3⟩
      | bk ρ2 S2 => rw [e2] at post; exact post
      | rt r S2 => rw [e2] at post; exact post
      | ex x ρ2 S2 => rw [e2] at post; exact post
      | bad => rw [e2] at post; exact post
  · left
    refine ⟨wk.st i g' H' (by omega) st, ?_⟩
    rw [List.drop_eq_nil_of_le (by omega), forI] at post
    exact post σ' H' ⟨g', .refl _ _, rel'⟩

/-! ### list comprehensions -/
def wipeL : Loc → List Nat → Loc
  | ρ, [] => ρ
  | ρ, v :: vs => (wipeL ρ vs).set v none
theorem Rel.clear {g : G} {ρ : Loc} {S : Store} {σ : St} {H : Hp} {i : Nat} (rel : Rel w g ρ S σ H) : Rel w g (ρ.set i none) S (σ.set i none) H := by
  have ne : ∀ {j : Nat} {q : RV}, (ρ.set i none)[j]? = some (some q) → i ≠ j ∧ ρ[j]? = some (some q) := fun {j q} h => by
    by_cases hj : i = j
    · subst hj
      by_cases hi : i < ρ.length
      · rw [List.getElem?_set_self hi] at h; cases h
      · rw [List.getElem?_eq_none (by simpa using hi)] at h; cases h
    · rw [List.getElem?_set_ne hj] at h; exact ⟨hj, h⟩
  refine ⟨by rw [List.length_set, List.length_set]; exact rel.len, fun j d fl q => ?_, fun j k d e a q1 q2 p1 p2 => ?_, rel.sto, rel.nd, rel.sep, rel.sez, rel.trk, fun x d hx q => by
    obtain ⟨hj, q⟩ := ne q
    rw [List.getElem?_set_ne hj]
    exact rel.slf x d hx q⟩
  · obtain ⟨hj, q⟩ := ne q
    rw [List.getElem?_set_ne hj]
    exact rel.loc j d fl q
  · obtain ⟨hj, q1⟩ := ne q1
    obtain ⟨hk, q2⟩ := ne q2
    rw [List.getElem?_set_ne hj] at p1
    rw [List.getElem?_set_ne hk] at p2
    exact rel.inj j k d e a q1 q2 p1 p2
theorem Rel.wipe {g : G} {ρ : Loc} {S : Store} {σ : St} {H : Hp} (rel : Rel w g ρ S σ H) : ∀ vs : List Nat, Rel w g (wipeL ρ vs) S (L2.wipe σ vs) H
  | [] => rel
  | v :: vs => (Rel.wipe rel vs).clear
theorem wipe_get {σ : St} {j : Nat} : ∀ {vs : List Nat}, j ∈ vs → (L2.wipe σ vs)[j]? = if j < σ.length then some none else none
  | v :: vs, h => by
    unfold L2.wipe
    by_cases hv : v = j
    · subst hv
      by_cases hl : v < σ.length
      · rw [List.getElem?_set_self (by rw [wipe_length]; exact hl), if_pos hl]
      · rw [if_neg hl, List.getElem?_eq_none (by rw [List.length_set, wipe_length]; omega)]
    · rw [List.getElem?_set_ne hv]
      rcases List.mem_cons.mp h with q | q
      · exact absurd q.symm hv
      · exact wipe_get q
theorem But.wipe {ns vs : List Nat} {σ σ2 : St} (h : But ns (L2.wipe σ vs) σ2) (hn : ∀ n ∈ ns, n ∈ vs) : L2.wipe σ2 vs = L2.wipe σ vs := by
  have hl : σ2.length = σ.length := by rw [h.1, wipe_length]
  apply List.ext_getElem?
  intro j
  by_cases hj : j ∈ vs
  · rw [wipe_get hj, wipe_get hj, hl]
  · rw [wipe_out hj, h.2 j fun q => hj (hn j q)]
def lcI (t : Tgt) (c : ST) (f : SE) (ρ : Loc) : List D → Store → R (List D)
  | [], S => .ok [] S
  | d :: ds, S => match t d ρ with
    | none => .bad
    | some ρ1 => (c ρ1 S).go (fun _ _ => .bad) .bad fun k S1 =>
        if k = true then (f ρ1 S1).go (fun _ _ => .bad) .bad fun r S2 => if leakOk r = true then (lcI t c f ρ ds S2).bind fun rs S3 => .ok (r.1 :: rs) S3 else .bad
        else lcI t c f ρ ds S1
def sLc (fi : SI) (t : Tgt) (c : ST) (f : SE) (vs : List Nat) : SE := fun ρ S => (fi ρ S).bind fun ds S1 => if ds.length < sizeLine then (lcI t c f (wipeL ρ vs) ds S1).bind fun rs S2 => .ok (.lst rs, .own) S2 else .bad
def WF : WX := fun _ _ _ _ => False
/-- an address more is kept off -/
def G.off (g : G) (m : List Addr) (a : Addr) : G := { m := m, zo := g.zo, zb := a :: g.zb, sl := g.sl }
theorem G.off_Z {g : G} {m : List Addr} {a : Addr} (b : Addr) : (g.off m a).Z b ↔ g.Z b ∨ b = a := by
  unfold G.off G.Z
  simp only [List.mem_cons]
  constructor
  · rintro (h | h | h)
    · exact .inl (.inl h)
    · exact .inr h
    · exact .inl (.inr h)
  · rintro ((h | h) | h)
    · exact .inl h
    · exact .inr (.inr h)
    · exact .inr (.inl h)
theorem off_mono {g : G} {m m' : List Addr} {a : Addr} {H : Hp} : Mono m (g.off m' a).Z H m (fun b => g.Z b ∨ b = a) H := mono_z fun b q => .inl ((G.off_Z b).mpr q)
theorem mono_off {g : G} {m m' : List Addr} {a : Addr} {H : Hp} : Mono m (fun b => g.Z b ∨ b = a) H m (g.off m' a).Z H := mono_z fun b q => .inl ((G.off_Z b).mp q)
/-- the frame behind a step, an address kept off that was untracked -/
theorem Rel.stepOff {g : G} {ρ : Loc} {S S' : Store} {σ : St} {H H' : Hp} {m' : List Addr} {a : Addr} (rel : Rel w g ρ S σ H) (s : StepE g.m H m' H') (ha : H a = none) (na : H' a ≠ none) (nm : a ∉ m') (sto : Stored w m' (fun b => g.Z b ∨ b = a) H' S') (nd : m'.Nodup) (tr : ∀ b ∈ m', H' b ≠ none) :
    Rel w (g.off m' a) ρ S' σ H' := by
  have lz : ∀ b, (g.off m' a).Z b → g.Z b ∨ H b = none := fun b q => ((G.off_Z b).mp q).imp id fun q => by rw [q]; exact ha
  have M : ∀ {m}, Mono m g.Z H m (g.off m' a).Z H := fun {m} => mono_z lz
  have M2 : Mono g.m (g.off m' a).Z H m' (g.off m' a).Z H' := s.mono fun _ q => q
  refine ⟨rel.len, fun i d fl q => ?_, rel.inj, sto.less fun b q => .inl ((G.off_Z b).mp q), nd, fun b hb z => ?_, fun b hb q => ?_, fun b q => ?_, rel.slf⟩
  · obtain ⟨v, hv, held⟩ := rel.loc i d fl q
    refine ⟨v, hv, ?_⟩
    cases fl with
    | sh => exact (Rep.mono M held).mono M2
    | mine => exact held.elim
    | bor =>
      rcases held with h | ⟨c, e, b, n, z⟩
      · exact .inl ((Rep.mono M h).mono M2)
      · refine .inr ⟨c, e, ?_, s.notm (by cases b with | lst h _ => rw [h]; simp | dk h _ => exact rd_ne h | dt h _ => exact rd_ne h | ins h _ => rw [h]; simp) n, z⟩
        cases b with
        | lst h r => exact .lst (s.keep _ _ h (.inl n) (fun _ q => by cases q)) ((r.mono M).mono M2)
        | dk h r => exact .dk (s.rd h n (fun _ q => by cases q)) ((r.mono M).mono M2)
        | dt h r => exact .dt (s.rd h n (fun _ q => by cases q)) ((r.mono M).mono M2)
        | ins h r => exact .ins (s.keep _ _ h (.inl n) (fun _ q => by cases q)) ((r.mono M).mono M2)
    | own =>
      obtain ⟨c, e, b, z, n⟩ := held
      exact ⟨c, e, s.boxW (b.less lz) n, z, s.notm b.ne n⟩
  · rcases (G.off_Z b).mp z with z | z
    · obtain ⟨ex, e, hx⟩ := s.ms
      have hb : b ∈ g.m ++ ex := e ▸ hb
      rcases List.mem_append.mp hb with q | q
      · exact rel.sep b q z
      · exact rel.trk b (.inr z) (hx b q)
    · exact nm (by rw [← z]; exact hb)
  · rcases List.mem_cons.mp q with z | z
    · exact rel.trk b (.inr (.inl hb)) (by rw [z]; exact ha)
    · exact rel.sez b hb z
  · rcases q with q | q
    · exact tr b q
    · rcases (G.off_Z b).mp q with q | q
      · exact fun z => rel.trk b (.inr q) (s.grow b z)
      · rw [q]; exact na
/-- what is kept off may change -/
theorem mono_upd {m : List Addr} {Z : Addr → Prop} {H : Hp} {a : Addr} {o : HO} (hz : Z a) (h1 : ∀ xs, H a ≠ some (.tup xs)) (h2 : ∀ ob k, H a ≠ some (.frz ob (sqO k))) (h3 : ∀ cls d, H a ≠ some (ExcO cls d a)) (h4 : ∀ gs, H a ≠ some (.xd gs)) : Mono m Z H m Z (upd H a o) where
  tup := fun b xs h => by
    by_cases q : b = a
    · exact absurd (q ▸ h) (h1 xs)
    · rw [upd_ne q]; exact h
  box := fun b u _ h z n => by
    have q : b ≠ a := fun q => z (q ▸ hz)
    refine ⟨?_, z, n⟩
    unfold Rd
    rw [upd_ne q]; exact h
  exa := fun b u _ h z n => by
    have q : b ≠ a := fun q => z (q ▸ hz)
    exact ⟨by rw [upd_ne q]; exact h, z, n⟩
  frl := fun b ob xs h => by
    by_cases q : b = a
    · exact absurd (q ▸ h) (h2 ob xs)
    · rw [upd_ne q]; exact h
  exc := fun b cls d h => by
    by_cases q : b = a
    · subst q; exact absurd h (h3 cls d)
    · rw [upd_ne q]; exact h
  xd := fun b gs h => by
    by_cases q : b = a
    · exact absurd (q ▸ h) (h4 gs)
    · rw [upd_ne q]; exact h
  obj := fun _ _ h => h
theorem Stored.monoH {m : List Addr} {Z : Addr → Prop} {H H' : Hp} {S : Store} (h : Stored w m Z H S) (M : Mono m Z H m Z H') (hm : ∀ b ∈ m, H' b = H b) : Stored w m Z H' S :=
  ⟨h.len, fun n d e => by
    obtain ⟨a, q, b⟩ := h.at_ n d e
    have ea := hm a (List.mem_of_getElem? q)
    refine ⟨a, q, ?_⟩
    cases b with
    | lst h r => exact .lst (ea.trans h) (r.mono M)
    | dk h r => exact .dk (ea.trans h) (r.mono M)
    | dt h r => exact .dt (ea.trans h) (r.mono M)
    | ins h r => exact .ins (ea.trans h) (r.mono M)⟩
theorem rd_lc {ns : List Nat} {fi : SI} {t : Tgt} {c : ST} {f : SE} {vs : List Nat} {σ : St} {H : Hp} {Q : VK} (hns : ∀ n ∈ ns, n ∈ vs) (h : rdE w W (sLc fi t c f vs) σ H Q) :
    tLc (rdI w W fi) (rdG w ns t) (rdT w WF c) (rdE w WF f) vs σ H Q := by
  obtain ⟨g, ρ, S, rel, h⟩ := h
  refine rdI_imp (bindI rel h goodE) fun J H1 ⟨ds, S1, m1, s1, rel1, wk, h1⟩ a ha => ?_
  split at h1
  rotate_left
  · exact h1.elim
  rename_i hsz
  have h1 := goodE.step g H m1 H1 _ s1 h1
  have s0 : StepE m1 H1 m1 (upd H1 a (.lst [])) := .new ha
  have rn := rel1.new (o := .lst []) ha
  have na1 : a ∉ m1 := fun q => rel1.trk a (.inl q) ha
  have nz1 : ¬ g.Z a := fun q => rel1.trk a (.inr q) ha
  refine ⟨fun i m H' => m + i = ds.length ∧ ∃ m2 S2 acc us, StepE m1 H1 m2 H' ∧ m2.Nodup ∧ (∀ b ∈ m2, H' b ≠ none) ∧ Stored w m2 (fun b => g.Z b ∨ b = a) H' S2 ∧ H' a = some (.lst us) ∧ Reps w m2 (fun b => g.Z b ∨ b = a) H' acc us ∧ acc.length ≤ i ∧ a ∉ m2 ∧
    PostE w W ρ σ Q (g.at m1) H1 ((lcI t c f (wipeL ρ vs) (ds.drop i) S2).bind fun rs S3 => .ok (.lst (acc ++ rs), .own) S3), ⟨ds.length, rfl, m1, S1, [], [], s0, rel1.nd, fun b hb => rn.trk b (.inl hb), ?_, upd_same, .nil, Nat.le_refl _, na1, h1⟩, ?_⟩
  · have q : Stored w m1 (fun b => g.Z b ∨ b = a) H1 S1 := rel1.sto.less fun b q => q.imp id fun q => by rw [q]; exact ha
    exact q.step s0 fun b hb => upd_ne fun z => na1 (by rw [← z]; exact hb)
  rintro i m H' ⟨hm, m2, S2, acc, us, st, nd2, tr2, sto2, hl, reps, hacc, nm2, post⟩
  have relI : Rel w (g.off m2 a) (wipeL ρ vs) S2 (L2.wipe σ vs) H' := (rel1.wipe vs).stepOff st ha (by rw [hl]; simp) nm2 sto2 nd2 tr2
  have sto0 : Stored w m2 g.Z H' S2 := sto2.less fun b q => .inl (.inl q)
  have relO : Rel w (g.at m2) ρ S2 σ H' := rel1.step st sto0 nd2 tr2
  by_cases hi : i < ds.length
  · right
    refine ⟨wk.go i _ H' hi st.toS, fun H'' => m - 1 + (i + 1) = ds.length ∧ ∃ m2 S2 acc us, StepE m1 H1 m2 H'' ∧ m2.Nodup ∧ (∀ b ∈ m2, H'' b ≠ none) ∧ Stored w m2 (fun b => g.Z b ∨ b = a) H'' S2 ∧ H'' a = some (.lst us) ∧ Reps w m2 (fun b => g.Z b ∨ b = a) H'' acc us ∧ acc.length ≤ i + 1 ∧ a ∉ m2 ∧
      PostE w W ρ σ Q (g.at m1) H1 ((lcI t c f (wipeL ρ vs) (ds.drop (i + 1)) S2).bind fun rs S3 => .ok (.lst (acc ++ rs), .own) S3), fun H'' q => ⟨m - 1, by omega, q⟩, fun x Hx y => ?_⟩
    have hd : ds[i]? = some ds[i] := by simp [hi]
    obtain ⟨_, sx, rx⟩ := wk.item st.toS y hd relO
    have relx : Rel w (g.off m2 a) (wipeL ρ vs) S2 (L2.wipe σ vs) Hx := by
      obtain ⟨q, _⟩ := wk.yl i _ H' x Hx st.toS y
      rcases q with rfl | ⟨p, tt, n, rfl⟩
      · exact relI
      · exact relI.new n
    have hxl : Hx a = some (.lst us) := sx.keep _ _ hl (.inl nm2) (fun _ q => by cases q)
    have rx1 : Rep w m2 (g.off m2 a).Z Hx ds[i] x := (rx (fun b => b = a) fun b q => by rw [q]; exact ha).mono mono_off
    rw [List.drop_eq_getElem_cons hi, lcI] at post
    cases e : t ds[i] (wipeL ρ vs) with
    | none => rw [e] at post; exact post.elim
    | some ρ1 =>
      rw [e] at post
      dsimp only at post
      refine ⟨g.off m2 a, _, S2, _, ρ1, relx, rx1, e, fun σ2 rel2 but => ⟨but.wipe hns, g.off m2 a, ρ1, S2, rel2, ?_⟩⟩
      cases e2 : c ρ1 S2 with
      | exc z S3 => rw [e2] at post; exact post.elim
      | bad => rw [e2] at post; exact post.elim
      | ok k S3 =>
        rw [e2] at post
        refine fun H3 ⟨m3, s3, rel3⟩ => ?_
        have st3 : StepE m1 H1 m3 H3 := (st.trans sx).trans s3
        have hl3 : H3 a = some (.lst us) := s3.keep _ _ hxl (.inl nm2) (fun _ q => by cases q)
        have nm3 : a ∉ m3 := s3.notm (by rw [hxl]; simp) nm2
        have rp3 : Reps w m3 (fun b => g.Z b ∨ b = a) H3 acc us := (reps.mono (sx.mono fun _ q => q)).mono (s3.mono fun _ q => q)
        have sto3 : Stored w m3 (fun b => g.Z b ∨ b = a) H3 S3 := rel3.sto.less fun b q => .inl ((G.off_Z b).mpr q)
        simp only [R.go] at post
        cases k with
        | false => exact ⟨by omega, m3, S3, acc, us, st3, rel3.nd, fun b hb => rel3.trk b (.inl hb), sto3, hl3, rp3, by omega, nm3, post⟩
        | true =>
          simp only [if_true] at post
          show rdE w WF f σ2 H3 _
          refine ⟨(g.off m2 a).at m3, ρ1, S3, rel3, ?_⟩
          cases e3 : f ρ1 S3 with
          | exc z S4 => rw [e3] at post; exact post.elim
          | bad => rw [e3] at post; exact post.elim
          | ok r S4 =>
            rw [e3] at post
            simp only [R.go] at post
            split at post
            rotate_left
            · exact post.elim
            rename_i lk
            refine fun v H4 ⟨m4, s4, rel4, res4⟩ => ?_
            have hl4 : H4 a = some (.lst us) := s4.keep _ _ hl3 (.inl nm3) (fun _ q => by cases q)
            have nm4 : a ∉ m4 := s4.notm (by rw [hl3]; simp) nm3
            have rp4 : Reps w m4 (fun b => g.Z b ∨ b = a) H4 acc us := rp3.mono (s4.mono fun _ q => q)
            have rv : Rep w m4 (fun b => g.Z b ∨ b = a) H4 r.1 v := (Arg.rep (Res.arg res4) lk).mono off_mono
            have hm4 : ∀ b ∈ m4, upd H4 a (.lst (us ++ [v])) b = H4 b := fun b hb => upd_ne fun z => nm4 (by rw [← z]; exact hb)
            -- what is kept off stays over a change there
            have MZ : Mono m4 (fun b => g.Z b ∨ b = a) H4 m4 (fun b => g.Z b ∨ b = a) (upd H4 a (.lst (us ++ [v]))) := mono_upd (.inr rfl) (fun _ q => by rw [hl4] at q; cases q) (fun _ _ q => by rw [hl4] at q; cases q) (fun _ _ q => by rw [hl4] at q; cases q) fun _ q => by rw [hl4] at q; cases q
            refine ⟨us, hl4, ?_, by omega, m4, S4, acc ++ [r.1], us ++ [v], ?_, rel4.nd, fun b hb => by rw [hm4 b hb]; exact rel4.trk b (.inl hb), ?_, upd_same, (rp4.snoc rv).mono MZ, by simp; omega, nm4, ?_⟩
            · rw [← reps.length]; omega
            · have st4 := st3.trans s4
              refine ⟨fun b o h q t => ?_, fun b q => ?_, st4.ms⟩
              · have : b ≠ a := fun z => by rw [z, ha] at h; cases h
                rw [upd_ne this]
                exact st4.keep b o h q t
              · by_cases z : b = a
                · rw [z]; exact ha
                · rw [upd_ne z] at q; exact st4.grow b q
            · have q : Stored w m4 (fun b => g.Z b ∨ b = a) H4 S4 := rel4.sto.less fun b q => .inl ((G.off_Z b).mpr q)
              exact q.monoH MZ hm4
            · cases e4 : lcI t c f (wipeL ρ vs) (ds.drop (i + 1)) S4 with
              | ok rs S5 => rw [e4] at post; simpa [R.bind, R.go] using post
              | exc z S5 => rw [e4] at post; simpa [R.bind, R.go] using post
              | bad => rw [e4] at post; exact post.elim
  · left
    refine ⟨wk.st i _ H' (by omega) st.toS, ?_⟩
    rw [List.drop_eq_nil_of_le (by omega), lcI] at post
    simp only [R.bind, R.go, List.append_nil] at post
    exact post (.ref a) H' ⟨m2, st, relO, a, rfl, ha, nm2, nz1, .lst hl reps, sto2⟩
end
end DL

set_option maxRecDepth 100000
/-! The value layer: conditions; list comprehensions as values. -/
namespace DL
open PySem L2
section
variable {w : Wd} {W : WX} {X : Cx}
/-! ### conditions -/
theorem e_if {c a b : Expr} {t : ST} {f u : SE} {pos : Pos} (hc : PT X c (rdT w W t)) (ha : PE X a (rdE w W f)) (hb : PE X b (rdE w W u)) : PE X (.IfExp c a b pos) (rdE w W (sIf t f u)) := by
  refine PE.imp (pe_ifExp hc ha hb) fun σ H Q ⟨g, ρ, S, rel, h⟩ => ?_
  have h' : PostE w W ρ σ Q g H ((t ρ S).go R.exc R.bad fun k S1 => if k = true then f ρ S1 else u ρ S1) := h
  -- the answer's box must be newer than the test
  refine ⟨g, ρ, S, rel, ?_⟩
  cases e : t ρ S with
  | ok k S1 =>
    rw [e] at h'
    refine fun H1 ⟨m1, s1, rel1⟩ => ?_
    have h2 := goodE.step g H m1 H1 _ s1 h'
    cases k with
    | true => exact ⟨g.at m1, ρ, S1, rel1, h2⟩
    | false => exact ⟨g.at m1, ρ, S1, rel1, h2⟩
  | exc x S1 => rw [e] at h'; exact h'
  | bad => rw [e] at h'; exact h'
theorem e_and {a b : Expr} {rest : List Expr} {f u : SE} {pos : Pos} (ha : PE X a (rdE w W f)) (hb : PE X (.BoolOp .And (b :: rest) pos) (rdE w W u)) : PE X (.BoolOp .And (a :: b :: rest) pos) (rdE w W (sAnd f u)) := by
  refine PE.imp (pe_and ha hb) fun σ H Q ⟨g, ρ, S, rel, h⟩ => ?_
  refine rdE_imp (bindE rel h goodE) fun v H1 ⟨r1, S1, m1, s1, rel1, res1, _, h1⟩ => ?_
  obtain ⟨d, fl⟩ := r1
  cases d with
  | bl b =>
    have l : Look w m1 g.Z H1 (.bl b) v := res1.arg.read.look
    refine ⟨b, l.bl, ?_⟩
    cases b with
    | true => exact ⟨g.at m1, ρ, S1, rel1, h1⟩
    | false => exact h1 _ _ (.same rel1 (.bl false))
  | _ => exact h1.elim
theorem e_or {a b : Expr} {rest : List Expr} {f u : SE} {pos : Pos} (ha : PE X a (rdE w W f)) (hb : PE X (.BoolOp .Or (b :: rest) pos) (rdE w W u)) : PE X (.BoolOp .Or (a :: b :: rest) pos) (rdE w W (sOr f u)) := by
  refine PE.imp (pe_or ha hb) fun σ H Q ⟨g, ρ, S, rel, h⟩ => ?_
  refine rdE_imp (bindE rel h goodE) fun v H1 ⟨r1, S1, m1, s1, rel1, res1, _, h1⟩ => ?_
  obtain ⟨d, fl⟩ := r1
  cases d with
  | bl b =>
    have l : Look w m1 g.Z H1 (.bl b) v := res1.arg.read.look
    refine ⟨b, l.bl, ?_⟩
    cases b with
    | false => exact ⟨g.at m1, ρ, S1, rel1, h1⟩
    | true => exact h1 _ _ (.same rel1 (.bl true))
  | _ => exact h1.elim
theorem e_not {a : Expr} {f : SE} {pos : Pos} (ha : PE X a (rdE w W f)) : PE X (.UnaryOp .Not a pos) (rdE w W (sNot f)) := by
  refine PE.imp (pe_not ha) fun σ H Q ⟨g, ρ, S, rel, h⟩ => ?_
  refine rdE_imp (bindE rel h goodE) fun v H1 ⟨r1, S1, m1, s1, rel1, res1, _, h1⟩ => ?_
  obtain ⟨d, fl⟩ := r1
  cases d with
  | bl b =>
    have l : Look w m1 g.Z H1 (.bl b) v := res1.arg.read.look
    exact ⟨b, l.bl, h1 _ _ (.same rel1 (.bl _))⟩
  | _ => exact h1.elim
/-- the last of a row of `and` or `or` -/
theorem e_and1 {a : Expr} {f : SE} {pos : Pos} (h : PE X a (rdE w W f)) : PE X (.BoolOp .And [a] pos) (rdE w W f) := pe_one h
theorem e_or1 {a : Expr} {f : SE} {pos : Pos} (h : PE X a (rdE w W f)) : PE X (.BoolOp .Or [a] pos) (rdE w W f) := pe_one h
theorem rd_tAnd {s t : ST} {σ : St} {H : Hp} {Q : Bool → Hp → Prop} (h : rdT w W (tAndS s t) σ H Q) : tAnd (rdT w W s) (rdT w W t) σ H Q := by
  obtain ⟨g, ρ, S, rel, h⟩ := h
  refine rdT_imp (bindT rel h goodT) fun k H1 ⟨S1, m1, s1, rel1, _, h1⟩ => ?_
  cases k with
  | true => exact ⟨g.at m1, ρ, S1, rel1, h1⟩
  | false => exact h1 _ ⟨m1, .refl _ _, rel1⟩
theorem rd_tOr {s t : ST} {σ : St} {H : Hp} {Q : Bool → Hp → Prop} (h : rdT w W (tOrS s t) σ H Q) : tOr (rdT w W s) (rdT w W t) σ H Q := by
  obtain ⟨g, ρ, S, rel, h⟩ := h
  refine rdT_imp (bindT rel h goodT) fun k H1 ⟨S1, m1, s1, rel1, _, h1⟩ => ?_
  cases k with
  | false => exact ⟨g.at m1, ρ, S1, rel1, h1⟩
  | true => exact h1 _ ⟨m1, .refl _ _, rel1⟩
theorem w_and1 {a : Expr} {t : ST} {pos : Pos} (h : PT X a (rdT w W t)) : PW X (.BoolOp .And [a] pos) (rdT w W t) := pw_and1 h
theorem w_or1 {a : Expr} {t : ST} {pos : Pos} (h : PT X a (rdT w W t)) : PW X (.BoolOp .Or [a] pos) (rdT w W t) := pw_or1 h
theorem w_and {a b : Expr} {rest : List Expr} {s t : ST} {pos : Pos} (ha : PT X a (rdT w W s)) (hb : PW X (.BoolOp .And (b :: rest) pos) (rdT w W t)) : PW X (.BoolOp .And (a :: b :: rest) pos) (rdT w W (tAndS s t)) :=
  PW.imp (pw_and ha hb) fun _ _ _ h => rd_tAnd h
theorem w_or {a b : Expr} {rest : List Expr} {s t : ST} {pos : Pos} (ha : PT X a (rdT w W s)) (hb : PW X (.BoolOp .Or (b :: rest) pos) (rdT w W t)) : PW X (.BoolOp .Or (a :: b :: rest) pos) (rdT w W (tOrS s t)) :=
  PW.imp (pw_or ha hb) fun _ _ _ h => rd_tOr h
theorem t_not {a : Expr} {t : ST} {pos : Pos} (h : PT X a (rdT w W t)) : PT X (.UnaryOp .Not a pos) (rdT w W (tNotS t)) := by
  refine PT.imp (pt_not h) fun σ H Q ⟨g, ρ, S, rel, h⟩ => ?_
  refine rdT_imp (bindT rel h goodT) fun k H1 ⟨S1, m1, s1, rel1, _, h1⟩ => ?_
  exact h1 _ ⟨m1, .refl _ _, rel1⟩
/-- a op b op c -/
def sChain (op op' : RV → RV → Store → Option RV) (f u v : SE) : SE := fun ρ S => (f ρ S).bind fun x S1 => (u ρ S1).bind fun y S2 => (opt (op x y S2) S2).bind fun k S3 => match k.1 with
  | .bl true => (v ρ S3).bind fun z S4 => opt (op' y z S4) S4
  | .bl false => .ok (.bl false, .sh) S3
  | _ => .bad
theorem rd_chain {r r' : R2} {op op' : RV → RV → Store → Option RV} (ok : OkOp2 w r op) (ok' : OkOp2 w r' op') {f u v : SE} {σ : St} {H : Hp} {Q : VK} (h : rdE w W (sChain op op' f u v) σ H Q) : tChain r r' (rdE w W f) (rdE w W u) (rdE w W v) σ H Q := by
  obtain ⟨g, ρ, S, rel, h⟩ := h
  refine rdE_imp (bindE rel h goodE) fun x H1 ⟨r1, S1, m1, s1, rel1, res1, _, h1⟩ => ?_
  refine rdE_imp (bindE rel1 h1 goodE) fun y H2 ⟨r2, S2, m2, s2, rel2, res2, _, h2⟩ => ?_
  cases e : op r1 r2 S2 with
  | none => rw [e] at h2; exact h2.elim
  | some q =>
    rw [e] at h2
    refine ok (g.at m2) ρ S2 σ H2 r1 r2 x y q _ rel2 (s2.arg res1.arg) res2.arg e fun z H3 ⟨m3, s3, rel3, res3⟩ => ?_
    have h3 : PostE w W ρ σ Q (g.at m2) H2 (match q.1 with
      | .bl true => (v ρ S2).bind fun z S4 => opt (op' r2 z S4) S4
      | .bl false => .ok (.bl false, .sh) S2
      | _ => .bad) := h2
    have h4 := goodE.step (g.at m2) H2 m3 H3 _ s3 h3
    obtain ⟨d, fl⟩ := q
    cases d with
    | bl b =>
      have l : Look w m3 g.Z H3 (.bl b) z := res3.arg.read.look
      refine ⟨b, l.bl, ?_⟩
      cases b with
      | false => exact h4 _ _ (.same rel3 (.bl false))
      | true =>
        refine rdE_imp (bindE rel3 h4 goodE) fun z' H5 ⟨r5, S5, m5, s5, rel5, res5, _, h5⟩ => ?_
        obtain ⟨q', e', h6⟩ := post_opt h5
        exact ok' (g.at m5) ρ S5 σ H5 r2 r5 y z' q' Q rel5 (s5.arg (s3.arg res2.arg)) res5.arg e' h6
    | _ => exact h4.elim
theorem e_chain {op op' : CmpOp} {r r' : R2} {o o' : RV → RV → Store → Option RV} (ok : OkOp2 w r o) (ok' : OkOp2 w r' o') (ho : OpR X (compareOp op) r) (ho' : OpR X (compareOp op') r') {a b c : Expr} {f u v : SE} {pos : Pos}
    (hm : lastMarks [op, op'] [b, c] = false) (ha : PE X a (rdE w W f)) (hb : PE X b (rdE w W u)) (hc : PE X c (rdE w W v)) : PE X (.Compare a [op, op'] [b, c] pos) (rdE w W (sChain o o' f u v)) :=
  PE.imp (pe_chain ho ho' ha hb hc hm) fun _ _ _ h => rd_chain ok ok' h
theorem t_chain {op op' : CmpOp} {r r' : R2} {o o' : RV → RV → Store → Option RV} (ok : OkOp2 w r o) (ok' : OkOp2 w r' o') (ho : OpR X (compareOp op) r) (ho' : OpR X (compareOp op') r') {a b c : Expr} {f u v : SE} {pos : Pos}
    (hm : lastMarks [op, op'] [b, c] = false) (ha : PE X a (rdE w W f)) (hb : PE X b (rdE w W u)) (hc : PE X c (rdE w W v)) : PT X (.Compare a [op, op'] [b, c] pos) (rdT w W (sT (sChain o o' f u v))) :=
  PT.imp (pt_chain ho ho' ha hb hc hm) fun _ _ _ h => rd_chain ok ok' (rdT_sT h)

/-! ### list comprehensions -/
def sYes : ST := fun _ S => .ok true S
theorem c_nil : PTs X [] (rdT w W sYes) := ⟨fun pins s σ H Q I ⟨g, ρ, S, rel, h⟩ => pts_nil.run pins s σ H Q I (h H ⟨g.m, .refl _ _, rel⟩)⟩
theorem c_one {c : Expr} {t : ST} (h : PT X c (rdT w W t)) : PTs X [c] (rdT w W t) := pts_one h
/-- in whatever block of this scope -/
abbrev AllBlk (X : Cx) (scope : Scope) (P : Cx → Prop) : Prop := ∀ (s : Shared) (H : Hp) (C : Addr) (cl : List (Str × Addr)) (fp : List Addr), P (X.blk s H scope (compEnvC scope cl C X.env) fp)
theorem e_lc {elt tg iter : Expr} {ifs : List Expr} {scope : Scope} {own : List (Str × Nat)} {pos : Pos} {ns : List Nat} {fi : SI} {t : Tgt} {c : ST} {f : SE} (hc : X.calm = true) (hN : X.N.Nodup) (hs : ∀ x, foldedSetIterable iter X.env x = pure x) (ok : BlkOk X.N X.env.scope scope own)
    (hns : ∀ n ∈ ns, n ∈ own.map (·.2)) (hi : PI X tg iter (rdI w W fi)) (hg : AllBlk X scope fun B => PG B tg (rdG w ns t)) (ht : AllBlk X scope fun B => PTs B ifs (rdT w WF c)) (he : AllBlk X scope fun B => PE B elt (rdE w WF f)) :
    PE X (.ListComp elt [⟨tg, iter, ifs, 0⟩] scope pos) (rdE w W (sLc fi t c f (own.map (·.2)))) :=
  PE.imp (pe_lc hc hN hi ok hg ht he hs) fun _ _ _ h => rd_lc hns h
theorem st_setLc {i : Nat} {y : Str} {py : Pos} {elt tg iter : Expr} {ifs : List Expr} {scope : Scope} {own : List (Str × Nat)} {pos spos : Pos} {ns : List Nat} {fi : SI} {t : Tgt} {c : ST} {f : SE} (hc : X.calm = true) (o : Sto X i y) (hyl : X.env.scope.names.lookup y = some .local)
    (hsw : swapsWith (.ListComp elt [⟨tg, iter, ifs, 0⟩] scope pos) (some (.Name y py)) spos.line X.env = pure true) (hs : ∀ x, foldedSetIterable iter X.env x = pure x) (ok : BlkOk X.N X.env.scope scope own)
    (hns : ∀ n ∈ ns, n ∈ own.map (·.2)) (hi : PI X tg iter (rdI w W fi)) (hg : AllBlk X scope fun B => PG B tg (rdG w ns t)) (ht : AllBlk X scope fun B => PTs B ifs (rdT w WF c)) (he : AllBlk X scope fun B => PE B elt (rdE w WF f)) :
    PS X (.Assign [.Name y py] (.ListComp elt [⟨tg, iter, ifs, 0⟩] scope pos) spos) (rdS w W (sSet i (sLc fi t c f (own.map (·.2))))) := by
  refine PS.imp (ps_setLc hc o.nd o.at_ hyl hsw hi ok hg ht he hs) fun D σ H h => ?_
  have h := rd_set h
  exact rd_lc hns h
theorem st_ownLc {i : Nat} {y : Str} {py : Pos} {elt tg iter : Expr} {ifs : List Expr} {scope : Scope} {own : List (Str × Nat)} {pos spos : Pos} {ns : List Nat} {fi : SI} {t : Tgt} {c : ST} {f : SE} (hi0 : i ≠ 0) (hc : X.calm = true) (o : Sto X i y) (hyl : X.env.scope.names.lookup y = some .local)
    (hsw : swapsWith (.ListComp elt [⟨tg, iter, ifs, 0⟩] scope pos) (some (.Name y py)) spos.line X.env = pure true) (hs : ∀ x, foldedSetIterable iter X.env x = pure x) (ok : BlkOk X.N X.env.scope scope own)
    (hns : ∀ n ∈ ns, n ∈ own.map (·.2)) (hi : PI X tg iter (rdI w W fi)) (hg : AllBlk X scope fun B => PG B tg (rdG w ns t)) (ht : AllBlk X scope fun B => PTs B ifs (rdT w WF c)) (he : AllBlk X scope fun B => PE B elt (rdE w WF f)) :
    PS X (.Assign [.Name y py] (.ListComp elt [⟨tg, iter, ifs, 0⟩] scope pos) spos) (rdS w W (sOwn i (sLc fi t c f (own.map (·.2))))) := by
  refine PS.imp (ps_setLc hc o.nd o.at_ hyl hsw hi ok hg ht he hs) fun D σ H h => ?_
  have h := rd_own hi0 h
  exact rd_lc hns h
end
end DL

set_option maxRecDepth 100000
/-! The value layer: built-in functions of values. -/
namespace DL
open PySem L2
section
variable {w : Wd} {W : WX} {X : Cx}
/-! ### rows of numbers, truths, texts -/
def intsD : List D → Option (List Int)
  | [] => some []
  | .int i :: r => (intsD r).map (i :: ·)
  | _ => none
def blsD : List D → Option (List Bool)
  | [] => some []
  | .bl b :: r => (blsD r).map (b :: ·)
  | _ => none
def strsD : List D → Option (List String)
  | [] => some []
  | .str x :: r => (strsD r).map (x :: ·)
  | _ => none
theorem Rep.int' {m : List Addr} {Z : Addr → Prop} {H : Hp} {i : Int} {v : V} (h : Rep w m Z H (.int i) v) : v = .int i := Look.int (.inl h)
theorem Rep.bl' {m : List Addr} {Z : Addr → Prop} {H : Hp} {b : Bool} {v : V} (h : Rep w m Z H (.bl b) v) : v = .bl b := Look.bl (.inl h)
theorem Rep.str' {m : List Addr} {Z : Addr → Prop} {H : Hp} {x : String} {v : V} (h : Rep w m Z H (.str x) v) : v = .str (s2 x) := Look.str (.inl h)
theorem Reps.intsD {m : List Addr} {Z : Addr → Prop} {H : Hp} : ∀ {ds : List D} {vs : List V} {ns : List Int}, Reps w m Z H ds vs → DL.intsD ds = some ns → vs = ns.map V.int
  | _, _, _, .nil, e => by cases e; rfl
  | d :: _, _, ns, .cons h r, e => by
    cases d with
    | int i =>
      obtain ⟨ms, e1, rfl⟩ := Option.map_eq_some_iff.mp e
      rw [h.int', Reps.intsD r e1]; rfl
    | _ => cases e
theorem Reps.blsD {m : List Addr} {Z : Addr → Prop} {H : Hp} : ∀ {ds : List D} {vs : List V} {ns : List Bool}, Reps w m Z H ds vs → DL.blsD ds = some ns → vs = ns.map V.bl
  | _, _, _, .nil, e => by cases e; rfl
  | d :: _, _, ns, .cons h r, e => by
    cases d with
    | bl i =>
      obtain ⟨ms, e1, rfl⟩ := Option.map_eq_some_iff.mp e
      rw [h.bl', Reps.blsD r e1]; rfl
    | _ => cases e
theorem Reps.strsD {m : List Addr} {Z : Addr → Prop} {H : Hp} : ∀ {ds : List D} {vs : List V} {ns : List String}, Reps w m Z H ds vs → DL.strsD ds = some ns → vs = (ns.map s2).map V.str
  | _, _, _, .nil, e => by cases e; rfl
  | d :: _, _, ns, .cons h r, e => by
    cases d with
    | str i =>
      obtain ⟨ms, e1, rfl⟩ := Option.map_eq_some_iff.mp e
      rw [h.str', Reps.strsD r e1]; rfl
    | _ => cases e
/-- a list that is read, whatever kind of list it is -/
theorem Look.lists {m : List Addr} {Z : Addr → Prop} {H : Hp} {d : D} {ds : List D} {v : V} (h : Look w m Z H d v) (e : d = .lst ds ∨ d = .frl ds) : ∃ a vs, v = .ref a ∧ SqL w.K H a vs ∧ Reps w m Z H ds vs := by
  rcases e with rfl | rfl
  · obtain ⟨a, vs, e1, e2, e3⟩ := h.lst
    exact ⟨a, vs, e1, .of e2, e3⟩
  · exact h.frl
def oLen (a : RV) (S : Store) : Option RV := match view S a.1 with
  | .tup ds => some (.int ds.length, .sh)
  | .lst ds => some (.int ds.length, .sh)
  | .frl ds => some (.int ds.length, .sh)
  | .str x => if x.length ≤ sizeLine then some (.int x.length, .sh) else none
  | _ => none
theorem ok_len (hK : X.K = w.K) : OkOp1 w (fun x H Q => (fun xs H Q => ∃ x n, xs = [x] ∧ LenV X.K x H n ∧ Q (.int n) H) [x] H Q) oLen := by
  intro g ρ S σ H a x q Q rel ha e k
  have l := look_view rel ha
  unfold oLen at e
  split at e
  · rename_i ds hd
    cases e
    rw [hd] at l
    obtain ⟨p, vs, rfl, hs, r⟩ := l.tup
    exact ⟨_, vs.length, rfl, .inr ⟨vs, hK ▸ hs, rfl⟩, k _ _ (by rw [← r.length]; exact .same rel (.int _))⟩
  · rename_i ds hd
    cases e
    obtain ⟨p, vs, rfl, hs, r⟩ := l.lists (.inl hd)
    exact ⟨_, vs.length, rfl, .inl ⟨vs, hK ▸ hs, rfl⟩, k _ _ (by rw [← r.length]; exact .same rel (.int _))⟩
  · rename_i ds hd
    cases e
    obtain ⟨p, vs, rfl, hs, r⟩ := l.lists (.inr hd)
    exact ⟨_, vs.length, rfl, .inl ⟨vs, hK ▸ hs, rfl⟩, k _ _ (by rw [← r.length]; exact .same rel (.int _))⟩
  · rename_i y hd
    split at e
    · rename_i c
      cases e
      rw [hd] at l
      cases l.str
      exact ⟨_, y.length, rfl, ⟨by rw [s2_len]; exact c, (s2_len y).symm⟩, k _ _ (.same rel (.int _))⟩
    · cases e
  · cases e
def oInt (a : RV) (_ : Store) : Option RV := match a.1 with
  | .int i => some (.int i, .sh)
  | .bl b => some (.int (if b then 1 else 0), .sh)
  | _ => none
theorem ok_int : OkOp1 w (fun x H Q => (fun xs H Q => (∃ i, xs = [.int i] ∧ Q (.int i) H) ∨ ∃ k, xs = [.bl k] ∧ Q (.int (if k then 1 else 0)) H) [x] H Q) oInt := by
  intro g ρ S σ H a x q Q rel ha e k
  have l := ha.read.look
  unfold oInt at e
  split at e
  · rename_i i hd
    rw [hd] at l
    cases e
    cases l.int
    exact .inl ⟨i, rfl, k _ _ (.same rel (.int _))⟩
  · rename_i b hd
    rw [hd] at l
    cases e
    cases l.bl
    exact .inr ⟨b, rfl, k _ _ (.same rel (.int _))⟩
  · cases e
def oAbs (a : RV) (_ : Store) : Option RV := match a.1 with
  | .int i => some (.int (if i < 0 then -i else i), .sh)
  | _ => none
theorem ok_abs : OkOp1 w (fun x H Q => (fun xs H Q => ∃ i, xs = [.int i] ∧ Q (.int (if i < 0 then -i else i)) H) [x] H Q) oAbs := by
  intro g ρ S σ H a x q Q rel ha e k
  have l := ha.read.look
  unfold oAbs at e
  split at e
  · rename_i i hd
    rw [hd] at l
    cases e
    cases l.int
    exact ⟨i, rfl, k _ _ (.same rel (.int _))⟩
  · cases e
def oMax2 (a b : RV) (_ : Store) : Option RV := match a.1, b.1 with
  | .int i, .int j => some (.int (if j > i then j else i), .sh)
  | _, _ => none
theorem ok_max2 : OkOp2 w (fun x y H Q => (fun xs H Q => ∃ i j, xs = [.int i, .int j] ∧ Q (.int (if j > i then j else i)) H) [x, y] H Q) oMax2 := by
  intro g ρ S σ H a b x y q Q rel ha hb e k
  have l := ha.read.look
  have l2 := hb.read.look
  unfold oMax2 at e
  split at e
  · rename_i i j hd hd2
    rw [hd] at l
    rw [hd2] at l2
    cases e
    cases l.int
    cases l2.int
    exact ⟨i, j, rfl, k _ _ (.same rel (.int _))⟩
  · cases e
def oMin2 (a b : RV) (_ : Store) : Option RV := match a.1, b.1 with
  | .int i, .int j => some (.int (if j < i then j else i), .sh)
  | _, _ => none
theorem ok_min2 : OkOp2 w (fun x y H Q => (fun xs H Q => ∃ i j, xs = [.int i, .int j] ∧ Q (.int (if j < i then j else i)) H) [x, y] H Q) oMin2 := by
  intro g ρ S σ H a b x y q Q rel ha hb e k
  have l := ha.read.look
  have l2 := hb.read.look
  unfold oMin2 at e
  split at e
  · rename_i i j hd hd2
    rw [hd] at l
    rw [hd2] at l2
    cases e
    cases l.int
    cases l2.int
    exact ⟨i, j, rfl, k _ _ (.same rel (.int _))⟩
  · cases e
def lstOf : D → Option (List D)
  | .lst ds => some ds
  | .frl ds => some ds
  | _ => none
theorem lstOf_eq {d : D} {ds : List D} (h : lstOf d = some ds) : d = .lst ds ∨ d = .frl ds := by
  cases d with
  | lst _ => cases h; exact .inl rfl
  | frl _ => cases h; exact .inr rfl
  | _ => cases h
/-- a list of numbers, of truths -/
def intsOf (a : RV) (S : Store) : Option (List Int) := (lstOf (view S a.1)).bind intsD
def blsOf (a : RV) (S : Store) : Option (List Bool) := (lstOf (view S a.1)).bind blsD
def oSum (a : RV) (S : Store) : Option RV := (intsOf a S).map fun ns => (.int ns.sum, .sh)
def maxI : List Int → Int
  | [] => 0
  | n :: r => r.foldl max n
def oMaxL (a : RV) (S : Store) : Option RV := (intsOf a S).bind fun ns => if ns = [] then none else some (.int (maxI ns), .sh)
def oAny (a : RV) (S : Store) : Option RV := (blsOf a S).map fun bs => (.bl (bs.any id), .sh)
def oAll (a : RV) (S : Store) : Option RV := (blsOf a S).map fun bs => (.bl (bs.all id), .sh)
theorem Look.intsD {g : G} {ρ : Loc} {S : Store} {σ : St} {H : Hp} {a : RV} {x : V} {ns : List Int} (rel : Rel w g ρ S σ H) (ha : Arg w g.m g.Z H a x) (e : intsOf a S = some ns) : ∃ p, x = .ref p ∧ SqL w.K H p (ns.map V.int) := by
  obtain ⟨ds, e1, e2⟩ := Option.bind_eq_some_iff.mp e
  obtain ⟨p, vs, rfl, hs, r⟩ := (look_view rel ha).lists (lstOf_eq e1)
  exact ⟨p, rfl, r.intsD e2 ▸ hs⟩
theorem Look.blsD {g : G} {ρ : Loc} {S : Store} {σ : St} {H : Hp} {a : RV} {x : V} {ns : List Bool} (rel : Rel w g ρ S σ H) (ha : Arg w g.m g.Z H a x) (e : blsOf a S = some ns) : ∃ p, x = .ref p ∧ SqL w.K H p (ns.map V.bl) := by
  obtain ⟨ds, e1, e2⟩ := Option.bind_eq_some_iff.mp e
  obtain ⟨p, vs, rfl, hs, r⟩ := (look_view rel ha).lists (lstOf_eq e1)
  exact ⟨p, rfl, r.blsD e2 ▸ hs⟩
theorem ok_sum (hK : X.K = w.K) : OkOp1 w (fun x H Q => rSum X.K [x] H Q) oSum := by
  intro g ρ S σ H a x q Q rel ha e k
  obtain ⟨ns, e1, rfl⟩ := Option.map_eq_some_iff.mp e
  obtain ⟨p, rfl, hs⟩ := Look.intsD rel ha e1
  exact ⟨p, ns, rfl, hK ▸ hs, k _ _ (.same rel (.int _))⟩
theorem maxI_mem : ∀ {r : List Int} {n : Int}, r.foldl max n = n ∨ r.foldl max n ∈ r
  | [], _ => .inl rfl
  | m :: r, n => by
    rw [List.foldl_cons]
    rcases maxI_mem (r := r) (n := max n m) with h | h
    · rw [h]
      rcases Int.le_total n m with l | l
      · rw [Int.max_eq_right l]; exact .inr List.mem_cons_self
      · rw [Int.max_eq_left l]; exact .inl rfl
    · exact .inr (List.mem_cons_of_mem _ h)
theorem le_maxI : ∀ {r : List Int} {n y : Int}, y = n ∨ y ∈ r → y ≤ r.foldl max n
  | [], n, y, h => h.elim (fun q => by rw [q]; exact Int.le_refl _) fun q => by cases q
  | m :: r, n, y, h => by
    rw [List.foldl_cons]
    have go : max n m ≤ r.foldl max (max n m) := le_maxI (.inl rfl)
    rcases h with rfl | h
    · exact Int.le_trans (Int.le_max_left _ _) go
    · rcases List.mem_cons.mp h with rfl | h
      · exact Int.le_trans (Int.le_max_right _ _) go
      · exact le_maxI (.inr h)
theorem ok_maxL (hK : X.K = w.K) : OkOp1 w (fun x H Q => rMax X.K [x] H Q) oMaxL := by
  intro g ρ S σ H a x q Q rel ha e k
  obtain ⟨ns, e1, e2⟩ := Option.bind_eq_some_iff.mp e
  split at e2
  · cases e2
  · rename_i ne
    cases e2
    obtain ⟨p, rfl, hs⟩ := Look.intsD rel ha e1
    refine ⟨p, ns, rfl, hK ▸ hs, by cases ns with | nil => exact absurd rfl ne | cons _ _ => simp, fun m hm hl => ?_⟩
    have : m = maxI ns := by
      cases ns with
      | nil => exact absurd rfl ne
      | cons n r =>
        refine Int.le_antisymm (le_maxI (List.mem_cons.mp hm)) (hl _ ?_)
        rcases maxI_mem (r := r) (n := n) with h | h
        · show r.foldl max n ∈ _; rw [h]; exact List.mem_cons_self
        · exact List.mem_cons_of_mem _ h
    rw [this]
    exact k _ _ (.same rel (.int _))
theorem ok_any (hK : X.K = w.K) : OkOp1 w (fun x H Q => rAny X.K [x] H Q) oAny := by
  intro g ρ S σ H a x q Q rel ha e k
  obtain ⟨ns, e1, rfl⟩ := Option.map_eq_some_iff.mp e
  obtain ⟨p, rfl, hs⟩ := Look.blsD rel ha e1
  exact ⟨p, ns, rfl, hK ▸ hs, k _ _ (.same rel (.bl _))⟩
theorem ok_all (hK : X.K = w.K) : OkOp1 w (fun x H Q => rAll X.K [x] H Q) oAll := by
  intro g ρ S σ H a x q Q rel ha e k
  obtain ⟨ns, e1, rfl⟩ := Option.map_eq_some_iff.mp e
  obtain ⟨p, rfl, hs⟩ := Look.blsD rel ha e1
  exact ⟨p, ns, rfl, hK ▸ hs, k _ _ (.same rel (.bl _))⟩
/-- tuple(x), list(x) of a row -/
def oTupOf (a : RV) (S : Store) : Option RV := match view S a.1 with
  | .tup ds => some (.tup ds, .sh)
  | .lst ds => some (.tup ds, .sh)
  | .frl ds => some (.tup ds, .sh)
  | _ => none
def oLstOf (a : RV) (S : Store) : Option RV := match view S a.1 with
  | .tup ds => some (.lst ds, .own)
  | .lst ds => some (.lst ds, .own)
  | .frl ds => some (.lst ds, .own)
  | _ => none
theorem ok_tupOf (hK : X.K = w.K) : OkOp1 w (fun x H Q => (fun xs H Q => ∃ p ys, xs = [V.ref p] ∧ ((SqL X.K H p ys ∧ ∀ l, H l = none → Q (.ref l) (upd H l (.tup ys))) ∨ (SqT X.K H p ys ∧ Q (.ref p) H))) [x] H Q) oTupOf := by
  intro g ρ S σ H a x q Q rel ha e k
  have l := look_view rel ha
  unfold oTupOf at e
  split at e
  · rename_i ds hd
    cases e
    rw [hd] at l
    have r0 : Rep w g.m g.Z H (.tup ds) x := l.rep rfl
    obtain ⟨p, vs, rfl, hs, r⟩ := l.tup
    exact ⟨p, vs, rfl, .inr ⟨hK ▸ hs, k _ _ (.same rel r0)⟩⟩
  · rename_i ds hd
    cases e
    obtain ⟨p, vs, rfl, hs, r⟩ := l.lists (.inl hd)
    exact ⟨p, vs, rfl, .inl ⟨hK ▸ hs, fun l hl => k _ _ (.tup rel r hl)⟩⟩
  · rename_i ds hd
    cases e
    obtain ⟨p, vs, rfl, hs, r⟩ := l.lists (.inr hd)
    exact ⟨p, vs, rfl, .inl ⟨hK ▸ hs, fun l hl => k _ _ (.tup rel r hl)⟩⟩
  · cases e
theorem ok_lstOf (hK : X.K = w.K) : OkOp1 w (fun x H Q => (fun xs H Q => ∃ p ys, xs = [V.ref p] ∧ (SqL X.K H p ys ∨ SqT X.K H p ys) ∧ ∀ l, H l = none → Q (.ref l) (upd H l (.lst ys))) [x] H Q) oLstOf := by
  intro g ρ S σ H a x q Q rel ha e k
  have l := look_view rel ha
  unfold oLstOf at e
  split at e
  · rename_i ds hd
    cases e
    rw [hd] at l
    obtain ⟨p, vs, rfl, hs, r⟩ := l.tup
    exact ⟨p, vs, rfl, .inr (hK ▸ hs), fun l hl => k _ _ (.lst rel r hl)⟩
  · rename_i ds hd
    cases e
    obtain ⟨p, vs, rfl, hs, r⟩ := l.lists (.inl hd)
    exact ⟨p, vs, rfl, .inl (hK ▸ hs), fun l hl => k _ _ (.lst rel r hl)⟩
  · rename_i ds hd
    cases e
    obtain ⟨p, vs, rfl, hs, r⟩ := l.lists (.inr hd)
    exact ⟨p, vs, rfl, .inl (hK ▸ hs), fun l hl => k _ _ (.lst rel r hl)⟩
  · cases e
/-- x.join(list or tuple of texts) -/
def rowOf : D → Option (List D)
  | .lst ds => some ds
  | .frl ds => some ds
  | .tup ds => some ds
  | _ => none
def joinS (x : String) : List String → String
  | [] => ""
  | [p] => p
  | p :: q :: r => p ++ x ++ joinS x (q :: r)
theorem joinS_s2 (x : String) : ∀ ys : List String, s2 (joinS x ys) = Txt.join (s2 x) (ys.map s2) := fun ys => by
  rw [show Txt.join (s2 x) (ys.map s2) = Str.join (s2 x) (ys.map s2) from StrLaws.glued_eq_join _ _]
  have go : ∀ ys : List String, s2 (joinS x ys) = Str.join (s2 x) (ys.map s2) := by
    intro ys
    induction ys with
    | nil => rfl
    | cons p r ih =>
      cases r with
      | nil => rfl
      | cons q r =>
        show s2 (p ++ x ++ joinS x (q :: r)) = s2 p ++ s2 x ++ Str.join (s2 x) ((q :: r).map s2)
        rw [← ih, s2_app, s2_app]
  exact go ys
def sJoin (f g : SE) : SE := fun ρ S => (f ρ S).bind fun r S1 => match r.1 with
  | .str x => (g ρ S1).bind fun q S2 => match (rowOf (view S2 q.1)).bind strsD with
    | some ys => if (ys.map (·.length)).sum + ys.length * x.length ≤ 16777216 then .ok (.str (joinS x ys), .sh) S2 else .bad
    | none => .bad
  | _ => .bad
theorem rows_of {m : List Addr} {Z : Addr → Prop} {H : Hp} {d : D} {ds : List D} {v : V} (h : Look w m Z H d v) (e : rowOf d = some ds) : ∃ a vs, v = .ref a ∧ (SqL w.K H a vs ∨ SqT w.K H a vs) ∧ Reps w m Z H ds vs := by
  cases d with
  | lst _ => cases e; obtain ⟨a, vs, e1, e2, e3⟩ := h.lists (.inl rfl); exact ⟨a, vs, e1, .inl e2, e3⟩
  | frl _ => cases e; obtain ⟨a, vs, e1, e2, e3⟩ := h.lists (.inr rfl); exact ⟨a, vs, e1, .inl e2, e3⟩
  | tup _ => cases e; obtain ⟨a, vs, e1, e2, e3⟩ := h.tup; exact ⟨a, vs, e1, .inr e2, e3⟩
  | _ => cases e
theorem e_join {o e : Expr} {f u : SE} {apos pos : Pos} (hK : X.K = w.K) (hs : starEach [e] X.env = [(false, eval e X.env)]) (hbase : attributeBase o "join" X.env (eval o X.env) = eval o X.env) (hline : (apos.endLine == pos.line) = true)
    (ho : PE X o (rdE w W f)) (he : PE X e (rdE w W u)) : PE X (.Call (.Attribute o "join" apos) [e] [] pos) (rdE w W (sJoin f u)) := by
  refine PE.imp (pe_join ho he hs hbase hline) fun σ H Q ⟨g, ρ, S, rel, h⟩ => ?_
  refine rdE_imp (bindE rel h goodE) fun x H1 ⟨r1, S1, m1, s1, rel1, res1, _, h1⟩ => ?_
  split at h1
  rotate_left
  · exact h1.elim
  rename_i y ey
  have l := res1.arg.read.look
  rw [ey] at l
  cases l.str
  refine ⟨⟨_, rfl⟩, ?_⟩
  refine rdE_imp (bindE rel1 h1 goodE) fun z H2 ⟨r2, S2, m2, s2', rel2, res2, _, h2⟩ => ?_
  split at h2
  rotate_left
  · exact h2.elim
  rename_i ys e2
  split at h2
  rotate_left
  · exact h2.elim
  rename_i c
  obtain ⟨ds, e3, e4⟩ := Option.bind_eq_some_iff.mp e2
  obtain ⟨a, vs, rfl, hs, r⟩ := rows_of (look_view rel2 res2.arg) e3
  have ev := r.strsD e4
  subst ev
  refine ⟨s2 y, a, ys.map s2, rfl, rfl, hK ▸ hs, ?_, ?_⟩
  · rw [List.map_map, List.length_map, s2_len]
    have : (ys.map (Str.length ∘ s2)) = ys.map (·.length) := List.map_congr_left fun q _ => s2_len q
    rw [this]; exact c
  · rw [← joinS_s2]
    exact h2 _ _ (.same rel2 (.str _))
end
end DL

set_option maxRecDepth 100000
/-! The value layer: dicts and lists with a name of their own; dict items; join. -/
namespace DL
open PySem L2
section
variable {w : Wd} {W : WX} {X : Cx}
/-! ### a thing with a name changes -/
theorem Rel.poke {g : G} {ρ : Loc} {S : Store} {σ : St} {H : Hp} {n : Nat} {a : Addr} {d : D} {o : HO} (rel : Rel w g ρ S σ H) (ha : g.m[n]? = some a) (hf : ∀ u, H a = some u → ¬ fixO a u)
    (b : BoxW w g.m g.Z (upd H a o) d a) : StepE g.m H g.m (upd H a o) ∧ Rel w g ρ (S.set n d) σ (upd H a o) := by
  have am : a ∈ g.m := List.mem_of_getElem? ha
  have s : StepE g.m H g.m (upd H a o) := by
    refine ⟨fun b u e q t => ?_, fun b e => ?_, [], by simp⟩
    · by_cases hb : b = a
      · subst hb
        rcases q with q | q
        · exact absurd am q
        · exact absurd q (hf u e)
      · rw [upd_ne hb]; exact e
    · by_cases hb : b = a
      · rw [hb, upd_same] at e; cases e
      · rw [upd_ne hb] at e; exact e
  refine ⟨s, rel.step s ⟨by rw [List.length_set]; exact rel.sto.len, fun k e q => ?_⟩ rel.nd fun c hc => ?_⟩
  · by_cases hk : n = k
    · subst hk
      have hl : n < S.length := by
        rw [rel.sto.len]; exact (List.getElem?_eq_some_iff.mp ha).1
      rw [List.getElem?_set_self hl] at q
      cases q
      exact ⟨a, ha, b⟩
    · rw [List.getElem?_set_ne hk] at q
      obtain ⟨c, hc, bx⟩ := rel.sto.at_ k e q
      refine ⟨c, hc, ?_⟩
      have ne : c ≠ a := fun z => by
        subst z
        have h1 := List.getElem?_eq_some_iff.mp ha
        have h2 := List.getElem?_eq_some_iff.mp hc
        obtain ⟨l1, q1⟩ := h1
        obtain ⟨l2, q2⟩ := h2
        rcases Nat.lt_trichotomy n k with h | h | h
        · exact List.pairwise_iff_getElem.mp rel.nd n k l1 l2 h (q1.trans q2.symm)
        · exact hk h
        · exact List.pairwise_iff_getElem.mp rel.nd k n l2 l1 h (q2.trans q1.symm)
      have M : Mono g.m g.Z H g.m g.Z (upd H a o) := s.mono fun _ q => q
      cases bx with
      | lst h r => exact .lst (by rw [upd_ne ne]; exact h) (r.mono M)
      | dk h r => exact .dk (by rw [upd_ne ne]; exact h) (r.mono M)
      | dt h r => exact .dt (by rw [upd_ne ne]; exact h) (r.mono M)
      | ins h r => exact .ins (by rw [upd_ne ne]; exact h) (r.mono M)
  · by_cases hb : c = a
    · rw [hb, upd_same]; simp
    · rw [upd_ne hb]; exact rel.trk c (.inl hc)
/-- what stands behind a name of its own -/
theorem Rel.named {g : G} {ρ : Loc} {S : Store} {σ : St} {H : Hp} {n : Nat} {fl : Fl} {v : V} (rel : Rel w g ρ S σ H) (h : Arg w g.m g.Z H (.obj n, fl) v) : ∃ a, v = .ref a ∧ g.m[n]? = some a := by
  rcases h.read.look with l | ⟨a, e, b⟩
  · cases l with
    | box b => cases b
    | obj hq => exact ⟨_, rfl, hq⟩
  · cases b
theorem StepE.at_ {m m' : List Addr} {H H' : Hp} (s : StepE m H m' H') {n : Nat} {a : Addr} (h : m[n]? = some a) : m'[n]? = some a := by
  obtain ⟨ex, rfl, _⟩ := s.ms
  rw [List.getElem?_append_left (List.getElem?_eq_some_iff.mp h).1]
  exact h
/-- a new box gets a name of its own -/
def sNew (f : SE) : SE := fun ρ S => (f ρ S).bind fun r S1 => if r.2 = .own then .ok (.obj S1.length, .sh) (S1 ++ [r.1]) else .bad
theorem e_new {e : Expr} {f : SE} (h : PE X e (rdE w W f)) : PE X e (rdE w W (sNew f)) := by
  refine PE.imp h fun σ H Q ⟨g, ρ, S, rel, h⟩ => ?_
  refine rdE_imp (bindE0 rel h goodE) fun v H1 ⟨r1, S1, m1, s1, rel1, res1, h1⟩ => ?_
  obtain ⟨d, fl⟩ := r1
  split at h1
  rotate_left
  · exact h1.elim
  rename_i c
  cases c
  obtain ⟨a, rfl, hn, nm, nz, b, sto⟩ := res1
  have nm1 : a ∉ m1 := nm
  have M : Mono m1 (fun c => g.Z c ∨ c = a) H1 (m1 ++ [a]) g.Z H1 := {
    tup := fun _ _ h => h
    box := fun b u _ h z n => ⟨h, fun q => z (.inl q), fun q => (List.mem_append.mp q).elim n fun q => z (.inr (List.mem_singleton.mp q))⟩
    exa := fun b u _ h z n => ⟨h, fun q => z (.inl q), fun q => (List.mem_append.mp q).elim n fun q => z (.inr (List.mem_singleton.mp q))⟩
    frl := fun _ _ _ h => h
    exc := fun _ _ _ h => h
    xd := fun _ _ h => h
    obj := fun n b h => by rw [List.getElem?_append_left (List.getElem?_eq_some_iff.mp h).1]; exact h }
  have bw : ∀ {d : D} {c : Addr}, BoxW w m1 (fun c => g.Z c ∨ c = a) H1 d c → BoxW w (m1 ++ [a]) g.Z H1 d c := fun b => by
    cases b with
    | lst h r => exact .lst h (r.mono M)
    | dk h r => exact .dk h (r.mono M)
    | dt h r => exact .dt h (r.mono M)
    | ins h r => exact .ins h (r.mono M)
  have s2 : StepE g.m H (m1 ++ [a]) H1 := by
    refine ⟨s1.keep, s1.grow, ?_⟩
    obtain ⟨ex, e, hx⟩ := s1.ms
    refine ⟨ex ++ [a], by rw [e, List.append_assoc], fun c hc => ?_⟩
    rcases List.mem_append.mp hc with q | q
    · exact hx c q
    · rw [List.mem_singleton.mp q]; exact hn
  have hl : S1.length = m1.length := sto.len
  have rel2 : Rel w (g.at (m1 ++ [a])) ρ (S1 ++ [d]) σ H1 := by
    refine rel.step s2 ⟨by simp [hl], fun k e q => ?_⟩ ?_ fun c hc => ?_
    · by_cases hk : k < S1.length
      · rw [List.getElem?_append_left hk] at q
        obtain ⟨c, hc, bx⟩ := sto.at_ k e q
        exact ⟨c, by rw [List.getElem?_append_left (by rw [← hl]; exact hk)]; exact hc, bw bx⟩
      · have hk2 : k = S1.length := by
          have := (List.getElem?_eq_some_iff.mp q).1
          simp at this; omega
        subst hk2
        rw [List.getElem?_append_right (Nat.le_refl _)] at q
        simp at q
        subst q
        exact ⟨a, by rw [List.getElem?_append_right (by omega)]; simp [hl], bw b⟩
    · exact List.nodup_append.mpr ⟨rel1.nd, by simp, fun x hx y hy => by rw [List.mem_singleton.mp hy]; exact fun z => nm1 (z ▸ hx)⟩
    · rcases List.mem_append.mp hc with q | q
      · exact rel1.trk c (.inl q)
      · rw [List.mem_singleton.mp q]; exact b.ne
  refine h1 _ _ ⟨m1 ++ [a], s2, rel2, ?_⟩
  exact .obj (by rw [List.getElem?_append_right (by omega)]; simp [hl])
/-! ### dict items -/
theorem key_deq {a b : D} {p q : Key} (ha : dKey a = some p) (hb : dKey b = some q) : deq a b = decide (p = q) := by
  cases a with
  | int i =>
    cases ha
    cases b with
    | int j =>
      cases hb
      simp only [deq]
      by_cases h : i = j
      · subst h; simp
      · rw [beq_eq_false_iff_ne.mpr h]
        symm
        rw [decide_eq_false_iff_not]
        exact fun e => h (Sum.inl.inj e)
    | str y => cases hb; simp [deq]
    | _ => cases hb
  | str x =>
    cases ha
    cases b with
    | int j => cases hb; simp [deq]
    | str y =>
      cases hb
      simp only [deq]
      by_cases h : x = y
      · subst h; simp
      · rw [beq_eq_false_iff_ne.mpr h]
        symm
        rw [decide_eq_false_iff_not]
        exact fun e => h (s2_inj (Sum.inr.inj e))
    | _ => cases hb
  | _ => cases ha
def setK (kvs : List (D × D)) (k d : D) : List (D × D) := if (kvs.any fun p => deq p.1 k) = true then kvs.map (fun p => if deq p.1 k = true then (p.1, d) else p) else kvs ++ [(k, d)]
theorem getK_nil {k : D} : getK [] k = none := rfl
theorem getK_cons {a d k : D} {kvs : List (D × D)} : getK ((a, d) :: kvs) k = if deq a k = true then some d else getK kvs k := by
  unfold getK
  rw [List.find?_cons]
  cases deq a k <;> rfl
theorem RepK.get {m : List Addr} {Z : Addr → Prop} {H : Hp} {k : D} {q : Key} (hk : dKey k = some q) : ∀ {kvs : List (D × D)} {ks : List (Key × V)}, RepK w m Z H kvs ks →
    (getK kvs k = none → valV ks q = none) ∧ ∀ d, getK kvs k = some d → ∃ v, valV ks q = some v ∧ Rep w m Z H d v
  | _, _, .nil => ⟨fun _ => rfl, fun _ e => by cases e⟩
  | _, _, .cons (k := a) (d := e) (q := p) (v := v) (kvs := kvs) (ks := ks) ha hv r => by
    have ih := RepK.get hk r
    rw [getK_cons, key_deq ha hk]
    by_cases h : p = q
    · rw [valV_pos (by exact h)]
      simp only [h, decide_true, if_true]
      refine ⟨fun z => ?_, fun d z => ?_⟩
      · cases z
      · cases z
        exact ⟨v, rfl, hv⟩
    · rw [valV_neg (by exact h)]
      simpa [h] using ih
theorem RepK.any {m : List Addr} {Z : Addr → Prop} {H : Hp} {k : D} {q : Key} (hk : dKey k = some q) : ∀ {kvs : List (D × D)} {ks : List (Key × V)}, RepK w m Z H kvs ks → (kvs.any fun p => deq p.1 k) = ks.any fun kv => decide (kv.1 = q)
  | _, _, .nil => rfl
  | _, _, .cons ha hv r => by rw [List.any_cons, List.any_cons, key_deq ha hk, RepK.any hk r]
theorem RepK.length {m : List Addr} {Z : Addr → Prop} {H : Hp} : ∀ {kvs : List (D × D)} {ks : List (Key × V)}, RepK w m Z H kvs ks → kvs.length = ks.length
  | _, _, .nil => rfl
  | _, _, .cons _ _ r => by rw [List.length_cons, List.length_cons, RepK.length r]
theorem RepK.map {m : List Addr} {Z : Addr → Prop} {H : Hp} {k d : D} {q : Key} {v : V} (hk : dKey k = some q) (hv : Rep w m Z H d v) : ∀ {kvs : List (D × D)} {ks : List (Key × V)}, RepK w m Z H kvs ks →
    RepK w m Z H (kvs.map fun p => if deq p.1 k = true then (p.1, d) else p) (ks.map fun kv => if kv.1 = q then (kv.1, v) else kv)
  | _, _, .nil => .nil
  | _, _, .cons (k := a) (d := e) (q := p) (v := u) ha hu r => by
    rw [List.map_cons, List.map_cons]
    have ih := RepK.map hk hv r
    rw [key_deq ha hk]
    by_cases h : p = q
    · simp only [h, decide_true, if_true]
      exact .cons (h ▸ ha) hv ih
    · simp only [h, decide_false, if_false, Bool.false_eq_true]
      exact .cons ha hu ih
theorem RepK.app {m : List Addr} {Z : Addr → Prop} {H : Hp} : ∀ {kvs es : List (D × D)} {ks fs : List (Key × V)}, RepK w m Z H kvs ks → RepK w m Z H es fs → RepK w m Z H (kvs ++ es) (ks ++ fs)
  | _, _, _, _, .nil, h => h
  | _, _, _, _, .cons a b r, h => .cons a b (RepK.app r h)
theorem RepK.put {m : List Addr} {Z : Addr → Prop} {H : Hp} {kvs : List (D × D)} {ks : List (Key × V)} {k d : D} {q : Key} {v : V} (r : RepK w m Z H kvs ks) (hk : dKey k = some q) (hv : Rep w m Z H d v) : RepK w m Z H (setK kvs k d) (putK ks q v) := by
  unfold setK putK
  rw [RepK.any hk r]
  split
  · exact r.map hk hv
  · exact r.app (.cons hk hv .nil)
/-- a dict that is read -/
theorem Look.dk {m : List Addr} {Z : Addr → Prop} {H : Hp} {kvs : List (D × D)} {v : V} (h : Look w m Z H (.dk kvs) v) : ∃ a ks, v = .ref a ∧ Rd H a (.dK ks) ∧ RepK w m Z H kvs ks := by
  rcases h with h | ⟨a, e, b⟩
  · cases h with
    | box b z n => cases b with | dk hr r => exact ⟨_, _, rfl, hr, r⟩
  · cases b with | dk hr r => exact ⟨_, _, e, hr, r⟩
theorem key_of {m : List Addr} {Z : Addr → Prop} {H : Hp} {k : D} {q : Key} {v : V} (h : Look w m Z H k v) (e : dKey k = some q) : v = kV q := by
  cases k with
  | int i => cases e; exact h.int
  | str x => cases e; exact h.str
  | _ => cases e
def rDG : R2 := fun x y H Q => ∃ a v, x = .ref a ∧ DGet H a y (some v) ∧ Q v H
def oDGet (a b : RV) (S : Store) : Option RV := match view S a.1 with
  | .dk kvs => if (dKey b.1).isSome = true then (getK kvs b.1).map fun d => (d, .sh) else none
  | _ => none
theorem ok_dget : OkOp2 w rDG oDGet := by
  intro g ρ S σ H a b x y q Q rel ha hb e k
  unfold oDGet at e
  split at e
  · rename_i kvs hd
    split at e
    · rename_i c
      obtain ⟨p, hp⟩ := Option.isSome_iff_exists.mp c
      obtain ⟨d, e1, rfl⟩ := Option.map_eq_some_iff.mp e
      have l := look_view rel ha
      rw [hd] at l
      obtain ⟨t, ks, rfl, hr, r⟩ := l.dk
      obtain ⟨v, hv, rv⟩ := (r.get hp).2 d e1
      exact ⟨t, v, rfl, .inl ⟨ks, p, hr, key_of hb.read.look hp, hv.symm⟩, k _ _ (.same rel rv)⟩
    · cases e
  · cases e
/-- o[i], a row's item or a dict's -/
def oItem (a b : RV) (S : Store) : Option RV := (oDGet a b S).or (oIdx a b S)
theorem PE.or {e : Expr} {t t' : TE} (h : PE X e t) (h' : PE X e t') : PE X e (fun σ H Q => t σ H Q ∨ t' σ H Q) := ⟨fun pins s σ H Q I q => q.elim (h.run pins s σ H Q I) (h'.run pins s σ H Q I)⟩
theorem e_dget {o i : Expr} {f u : SE} {pos : Pos} (hu : X.A.units + 1 < cLine) (hs : NoSl i) (ho : PE X o (rdE w W f)) (hi : PE X i (rdE w W u)) : PE X (.Subscript o i pos) (rdE w W (sOp2 oDGet f u)) :=
  PE.imp (pe_dget hu ho hi hs) fun _ _ _ h => rd_op2 (r := rDG) ok_dget h
def sGet2 (f k u : SE) : SE := fun ρ S => (f ρ S).bind fun o S1 => match o.1 with
  | .dk kvs => (k ρ S1).bind fun y S2 => (u ρ S2).bind fun z S3 => if (dKey y.1).isSome = true then (match getK kvs y.1 with | some d => .ok (d, .sh) S3 | none => if leakOk z = true then .ok (z.1, .sh) S3 else .bad) else .bad
  | _ => .bad
theorem Look.isD {m m' : List Addr} {Z : Addr → Prop} {H : Hp} {kvs : List (D × D)} {v : V} (h : Look w m Z H (.dk kvs) v) : ∃ a, v = .ref a ∧ IsD H a := by
  obtain ⟨a, ks, e, r, _⟩ := h.dk
  exact ⟨a, e, .inl ⟨ks, r⟩⟩
/-- d.get(k, x), d a value -/
theorem e_get2 {o e f : Expr} {fo fk fx : SE} {apos cpos : Pos} (hu : X.A.units + 1 < cLine) (m : M2 X o "get" apos e f cpos) (ho : PE X o (rdE w W fo)) (he : PE X e (rdE w W fk)) (hf : PE X f (rdE w W fx)) :
    PE X (.Call (.Attribute o "get" apos) [e, f] [] cpos) (rdE w W (sGet2 fo fk fx)) := by
  refine PE.imp (pe_dget2 hu ho he hf m) fun σ H Q ⟨g, ρ, S, rel, h⟩ => ?_
  refine rdE_imp (bindE rel h goodE) fun x H1 ⟨r1, S1, m1, s1, rel1, res1, _, h1⟩ => ?_
  split at h1
  rotate_left
  · exact h1.elim
  rename_i kvs ed
  have l0 := res1.arg.read.look
  rw [ed] at l0
  obtain ⟨a, rfl, isd⟩ := l0.isD (m' := m1)
  refine ⟨a, rfl, isd, ?_⟩
  refine rdE_imp (bindE rel1 h1 goodE) fun y H2 ⟨r2, S2, m2, s2, rel2, res2, _, h2⟩ => ?_
  refine rdE_imp (bindE rel2 h2 goodE) fun z H3 ⟨r3, S3, m3, s3, rel3, res3, _, h3⟩ => ?_
  split at h3
  rotate_left
  · exact h3.elim
  rename_i c
  obtain ⟨p, hp⟩ := Option.isSome_iff_exists.mp c
  have l : Look w m3 g.Z H3 r1.1 (.ref a) := (s3.arg (s2.arg res1.arg)).read.look
  rw [ed] at l
  obtain ⟨t, ks, e, hr, r⟩ := l.dk
  cases e
  have hy : y = kV p := key_of (s3.arg res2.arg).read.look hp
  split at h3
  · rename_i d e1
    obtain ⟨v, hv, rv⟩ := (r.get hp).2 d e1
    exact ⟨some v, .inl ⟨ks, p, hr, hy, hv.symm⟩, h3 _ _ (.same rel3 rv)⟩
  · rename_i e1
    split at h3
    · rename_i lk
      exact ⟨none, .inl ⟨ks, p, hr, hy, ((r.get hp).1 e1).symm⟩, h3 _ _ (.same rel3 (res3.arg.rep lk))⟩
    · exact h3.elim
/-- o[k] = v, o a dict with a name of its own -/
def sPut (fo fk fv : SE) : SS := fun ρ S => goS (fv ρ S) ρ fun v S1 => goS (fo ρ S1) ρ fun o S2 => goS (fk ρ S2) ρ fun k S3 => match o.1 with
  | .obj n => match S3[n]? with
    | some (.dk kvs) => if leakOk v = true ∧ (dKey k.1).isSome = true ∧ kvs.length < sizeLine then .nx ρ (S3.set n (.dk (setK kvs k.1 v.1))) else .bad
    | _ => .bad
  | _ => .bad
theorem st_put {o i value : Expr} {fo fk fv : SE} {pos pos' : Pos} (hu : X.A.units + 1 < cLine) (hs : swapsWith value (some (.Subscript o i pos')) pos.line X.env = pure false) (ho : PE X o (rdE w W fo)) (hi : PE X i (rdE w W fk)) (hv : PE X value (rdE w W fv)) :
    PS X (.Assign [.Subscript o i pos'] value pos) (rdS w W (sPut fo fk fv)) := by
  refine PS.imp (ps_dput hu ho hi hv hs) fun D σ H ⟨g, ρ, S, rel, h⟩ => ?_
  refine rdE_imp (bindE rel h goodS) fun v H1 ⟨r1, S1, m1, s1, rel1, res1, _, h1⟩ => ?_
  refine rdE_imp (bindE rel1 h1 goodS) fun x H2 ⟨r2, S2, m2, s2, rel2, res2, _, h2⟩ => ?_
  refine rdE_imp (bindE rel2 h2 goodS) fun y H3 ⟨r3, S3, m3, s3, rel3, res3, _, h3⟩ => ?_
  split at h3
  rotate_left
  · exact h3.elim
  rename_i n eo
  split at h3
  rotate_left
  · exact h3.elim
  rename_i kvs es
  split at h3
  rotate_left
  · exact h3.elim
  rename_i c
  obtain ⟨lk, ks, hz⟩ := c
  obtain ⟨q, hq⟩ := Option.isSome_iff_exists.mp ks
  have a2 := s3.arg res2.arg
  obtain ⟨d2, fl2⟩ := r2
  cases eo
  obtain ⟨a, rfl, ha⟩ := rel3.named a2
  obtain ⟨a', ha', bx⟩ := rel3.sto.at_ n _ es
  have e : a' = a := by rw [ha] at ha'; exact (Option.some.inj ha').symm
  subst e
  cases bx with
  | dk hd r =>
    have rv := (s3.arg (s2.arg res1.arg)).rep lk
    have am : a' ∈ m3 := List.mem_of_getElem? ha
    have nf : ∀ u, H3 a' = some u → ¬ fixO a' u := fun u e q => by
      rw [hd] at e
      cases e
      rcases q with ⟨_, q⟩ | ⟨_, _, q⟩ | ⟨_, q⟩ | ⟨_, _, q⟩ <;> first | cases q | (unfold ExcO at q; cases q)
    have sm : ∀ o, Mono m3 g.Z H3 m3 g.Z (upd H3 a' o) := fun o => {
      tup := fun b xs h => by
        rw [upd_ne (fun z => by rw [z, hd] at h; cases h)]; exact h
      box := fun b u _ h z n => ⟨by have ne : b ≠ a' := (fun z => n (z ▸ am)); unfold Rd; rw [upd_ne ne]; exact h, z, n⟩
      exa := fun b u _ h z n => ⟨by have ne : b ≠ a' := (fun z => n (z ▸ am)); rw [upd_ne ne]; exact h, z, n⟩
      frl := fun b ob xs h => by
        rw [upd_ne (fun z => by rw [z, hd] at h; cases h)]; exact h
      exc := fun b cls dd h => by
        rw [upd_ne (fun z => by subst z; rw [hd] at h; unfold ExcO at h; cases h)]; exact h
      xd := fun b gs h => by
        rw [upd_ne (fun z => by rw [z, hd] at h; cases h)]; exact h
      obj := fun _ _ h => h }
    obtain ⟨s4, rel4⟩ := rel3.poke (d := .dk (setK kvs r3.1 r1.1)) (o := .dK (putK _ q v)) ha nf (.dk upd_same ((r.put hq rv).mono (sm _)))
    exact ⟨a', _, rfl, .inl ⟨_, q, hd, key_of res3.arg.read.look hq, by rw [← r.length]; exact hz, rfl⟩, h3 _ _ ⟨_, s4.toS, rel4⟩⟩
end
end DL

set_option maxRecDepth 100000
/-! The value layer: dict displays; lists with a name of their own. -/
namespace DL
open PySem L2
section
variable {w : Wd} {W : WX} {X : Cx}
/-! ### displays -/
def prI : List (SE × SE) → Loc → Store → R (List (D × D))
  | [], _, S => .ok [] S
  | (f, u) :: r, ρ, S => (f ρ S).go (fun _ _ => .bad) .bad fun k S1 => (u ρ S1).go (fun _ _ => .bad) .bad fun v S2 =>
      if (dKey k.1).isSome = true ∧ leakOk v = true then (prI r ρ S2).bind fun ps S3 => .ok ((k.1, v.1) :: ps) S3 else .bad
def mergeD (kvs more : List (D × D)) : List (D × D) := more.foldl (fun acc kv => setK acc kv.1 kv.2) kvs
def sDict (ps : List (SE × SE)) : SE := fun ρ S => (prI ps ρ S).go (fun _ _ => .bad) .bad fun kvs S1 => if kvs.length ≤ 15 then .ok (.dk (mergeD [] kvs), .own) S1 else .bad
def trs (w : Wd) (W : WX) (ps : List (SE × SE)) : List (TE × TE) := ps.map fun p => (rdE w W p.1, rdE w W p.2)
theorem d_nil {pos : Pos} : PPs X pos [] [] (trs w W []) := pps_nil
theorem d_cons {pos : Pos} {k v : Expr} {ks : List (Option Expr)} {vs : List Expr} {f u : SE} {ps : List (SE × SE)} (hk : PE X k (rdE w W f)) (hv : PE X v (rdE w W u)) (hr : PPs X pos ks vs (trs w W ps)) : PPs X pos (some k :: ks) (v :: vs) (trs w W ((f, u) :: ps)) :=
  pps_cons hk hv hr
theorem rd_pairs {ρ : Loc} {σ : St} : ∀ (ps : List (SE × SE)) {g : G} {S S' : Store} {H : Hp} {kvs : List (D × D)} {Q : List (V × V) → Hp → Prop}, Rel w g ρ S σ H → prI ps ρ S = .ok kvs S' →
    (∀ ks H' m', StepE g.m H m' H' → Rel w (g.at m') ρ S' σ H' → RepK w m' g.Z H' kvs ks → Q (ks.map fun kv => (kV kv.1, kv.2)) H') → tPairs (trs w W ps) σ H Q
  | [], g, S, S', H, kvs, Q, rel, e, hq => by
    cases e
    exact hq [] H g.m (.refl _ _) rel .nil
  | (f, u) :: r, g, S, S', H, kvs, Q, rel, e, hq => by
    rw [prI] at e
    show rdE w W f σ H fun x H1 => rdE w W u σ H1 fun y H2 => tPairs (trs w W r) σ H2 fun ps H3 => Q ((x, y) :: ps) H3
    refine ⟨g, ρ, S, rel, ?_⟩
    cases e1 : f ρ S with
    | exc z S1 => rw [e1] at e; cases e
    | bad => rw [e1] at e; cases e
    | ok k S1 =>
      rw [e1] at e
      simp only [R.go] at e
      refine fun x H1 ⟨m1, s1, rel1, res1⟩ => ⟨g.at m1, ρ, S1, rel1, ?_⟩
      cases e2 : u ρ S1 with
      | exc z S2 => rw [e2] at e; cases e
      | bad => rw [e2] at e; cases e
      | ok v S2 =>
        rw [e2] at e
        simp only [R.go] at e
        refine fun y H2 ⟨m2, s2, rel2, res2⟩ => ?_
        split at e
        rotate_left
        · cases e
        rename_i c
        obtain ⟨q, hk⟩ := Option.isSome_iff_exists.mp c.1
        cases e3 : prI r ρ S2 with
        | exc z S3 => rw [e3] at e; cases e
        | bad => rw [e3] at e; cases e
        | ok es S3 =>
          rw [e3] at e
          cases e
          refine rd_pairs r (g := g.at m2) rel2 e3 fun ks H' m' s3 rel3 rk => ?_
          have hx : x = kV q := key_of (s2.arg res1.arg).read.look hk
          have := hq ((q, y) :: ks) H' m' (s1.trans (s2.trans s3)) rel3 (.cons hk (s3.rep (res2.arg.rep c.2)) rk)
          rw [hx]
          exact this
theorem RepK.merge {m : List Addr} {Z : Addr → Prop} {H : Hp} : ∀ {more : List (D × D)} {ks : List (Key × V)} {acc : List (D × D)} {as : List (Key × V)}, RepK w m Z H more ks → RepK w m Z H acc as → RepK w m Z H (mergeD acc more) (mergeK as ks)
  | _, _, _, _, .nil, h => h
  | _, _, acc, as, .cons (k := k) (d := d) (q := q) (v := v) hk hv r, h => RepK.merge (acc := setK acc k d) (as := putK as q v) r (h.put hk hv)
theorem e_dict {ps : List (SE × SE)} {pos : Pos} {keys : List (Option Expr)} {values : List Expr} (hall : keys.all (·.isSome) = true) (hl : keys.length = values.length) (h0 : keys ≠ []) (h15 : keys.length ≤ 15) (h : PPs X pos keys values (trs w W ps)) :
    PE X (.Dict keys values pos) (rdE w W (sDict ps)) := by
  refine PE.imp (pe_disp h hall hl h0 h15) fun σ H Q ⟨g, ρ, S, rel, h⟩ => ?_
  intro p hp
  unfold sDict at h
  cases e : prI ps ρ S with
  | exc z S3 => rw [e] at h; exact h.elim
  | bad => rw [e] at h; exact h.elim
  | ok kvs S1 =>
    rw [e] at h
    simp only [R.go] at h
    split at h
    rotate_left
    · exact h.elim
    rename_i hz
    have s0 : StepE g.m H g.m (upd H p (.dK [])) := .new hp
    have np : p ∉ g.m := fun q => rel.trk p (.inl q) hp
    have nz : ¬ g.Z p := fun q => rel.trk p (.inr q) hp
    have sto0 : Stored w g.m (fun b => g.Z b ∨ b = p) (upd H p (.dK [])) S := by
      have q : Stored w g.m (fun b => g.Z b ∨ b = p) H S := rel.sto.less fun b q => q.imp id fun q => by rw [q]; exact hp
      exact q.step s0 fun b hb => upd_ne fun z => np (by rw [← z]; exact hb)
    have rel0 : Rel w (g.off g.m p) ρ S σ (upd H p (.dK [])) := rel.stepOff s0 hp (by rw [upd_same]; simp) np sto0 rel.nd fun b hb => (rel.new (o := .dK []) hp).trk b (.inl hb)
    refine rd_pairs ps rel0 e fun ks H2 m2 s2 rel2 rk => ?_
    have hl2 : H2 p = some (.dK []) := s2.keep _ _ upd_same (.inl np) (fun _ q => by cases q)
    have nm2 : p ∉ m2 := s2.notm (by rw [upd_same]; simp) np
    refine ⟨hl2, ks, rfl, by rw [← rk.length]; exact hz, ?_⟩
    have s02 : StepE g.m H m2 H2 := s0.trans s2
    have MZ : Mono m2 (fun b => g.Z b ∨ b = p) H2 m2 (fun b => g.Z b ∨ b = p) (upd H2 p (.dK (mergeK [] ks))) := mono_upd (.inr rfl) (fun _ q => by rw [hl2] at q; cases q) (fun _ _ q => by rw [hl2] at q; cases q) (fun _ _ q => by rw [hl2] at q; cases q) fun _ q => by rw [hl2] at q; cases q
    have hm : ∀ b ∈ m2, upd H2 p (.dK (mergeK [] ks)) b = H2 b := fun b hb => upd_ne fun z => nm2 (by rw [← z]; exact hb)
    have sto2 : Stored w m2 (fun b => g.Z b ∨ b = p) (upd H2 p (.dK (mergeK [] ks))) S1 := by
      have q : Stored w m2 (fun b => g.Z b ∨ b = p) H2 S1 := rel2.sto.less fun b q => .inl ((G.off_Z b).mpr q)
      exact q.monoH MZ hm
    have s3 : StepE g.m H m2 (upd H2 p (.dK (mergeK [] ks))) := by
      refine ⟨fun b o h q t => ?_, fun b q => ?_, s02.ms⟩
      · have : b ≠ p := fun z => by rw [z, hp] at h; cases h
        rw [upd_ne this]
        exact s02.keep b o h q t
      · by_cases z : b = p
        · rw [z]; exact hp
        · rw [upd_ne z] at q; exact s02.grow b q
    refine h _ _ ⟨m2, s3, ?_, p, rfl, hp, nm2, nz, .dk upd_same ((RepK.merge (rk.mono off_mono) .nil).mono MZ), sto2⟩
    exact rel.step s3 (sto2.less fun b q => .inl (.inl q)) rel2.nd fun b hb => by rw [hm b hb]; exact rel2.trk b (.inl hb)

/-! ### x.pop(i), x.append(e): x a list with a name of its own -/
/-- the change of a list with a name -/
theorem Rel.pokeL {g : G} {ρ : Loc} {S : Store} {σ : St} {H : Hp} {n : Nat} {a : Addr} {es : List D} {vs us : List V} (rel : Rel w g ρ S σ H) (ha : g.m[n]? = some a) (hd : H a = some (.lst vs)) (r : Reps w g.m g.Z H es us) :
    StepE g.m H g.m (upd H a (.lst us)) ∧ Rel w g ρ (S.set n (.lst es)) σ (upd H a (.lst us)) ∧ Mono g.m g.Z H g.m g.Z (upd H a (.lst us)) := by
  have am : a ∈ g.m := List.mem_of_getElem? ha
  have nf : ∀ u, H a = some u → ¬ fixO a u := fun u e q => by
    rw [hd] at e
    cases e
    rcases q with ⟨_, q⟩ | ⟨_, _, q⟩ | ⟨_, q⟩ | ⟨_, _, q⟩ <;> first | cases q | (unfold ExcO at q; cases q)
  have sm : Mono g.m g.Z H g.m g.Z (upd H a (.lst us)) := {
    tup := fun b xs h => by
      rw [upd_ne (fun z => by rw [z, hd] at h; cases h)]; exact h
    box := fun b u _ h z n => ⟨by have ne : b ≠ a := (fun z => n (z ▸ am)); unfold Rd; rw [upd_ne ne]; exact h, z, n⟩
    exa := fun b u _ h z n => ⟨by have ne : b ≠ a := (fun z => n (z ▸ am)); rw [upd_ne ne]; exact h, z, n⟩
    frl := fun b ob xs h => by
      rw [upd_ne (fun z => by rw [z, hd] at h; cases h)]; exact h
    exc := fun b cls dd h => by
      rw [upd_ne (fun z => by subst z; rw [hd] at h; unfold ExcO at h; cases h)]; exact h
    xd := fun b gs h => by
      rw [upd_ne (fun z => by rw [z, hd] at h; cases h)]; exact h
    obj := fun _ _ h => h }
  obtain ⟨s4, rel4⟩ := rel.poke (d := .lst es) (o := .lst us) ha nf (.lst upd_same (r.mono sm))
  exact ⟨s4, rel4, sm⟩
theorem Reps.erase {m : List Addr} {Z : Addr → Prop} {H : Hp} : ∀ {ds : List D} {vs : List V} (k : Nat), Reps w m Z H ds vs → Reps w m Z H (ds.eraseIdx k) (vs.eraseIdx k)
  | _, _, _, .nil => .nil
  | _, _, 0, .cons _ r => r
  | _, _, k + 1, .cons h r => .cons h (Reps.erase k r)
def sPopO (f : SE) (fs : SA) : SE := fun ρ S => (f ρ S).bind fun o S1 => match o.1 with
  | .obj n => match S1[n]? with
    | some (.lst _) => (fs ρ S1).bind fun is S2 => match is, S2[n]? with
      | [(.int j, _)], some (.lst ds) => match ixN ds.length j with
        | some k => if ds.length < 2 ^ 62 then .ok (ds.getD k .non, .sh) (S2.set n (.lst (ds.eraseIdx k))) else .bad
        | none => .bad
      | _, _ => .bad
    | _ => .bad
  | _ => .bad
/-- a method call on one line, few arguments -/
structure MC (X : Cx) (o : Expr) (x : Str) (apos : Pos) (e : Expr) (es : List Expr) (cpos : Pos) : Prop where
  base : attributeBase o x X.env (eval o X.env) = eval o X.env
  few : ((backTo cpos (starEach (e :: es) X.env)).all (fun x => !x.1) && (backToKw cpos (keywordEach [] X.env)).all (fun x => x.1.isSome) && decide ((e :: es).length + ([] : List Keyword).length + (if ([] : List Keyword).isEmpty then 0 else 1) < 30)) = true
  line : (apos.endLine == cpos.line) = true
  star : starEach (e :: es) X.env = (false, eval e X.env) :: starEach es X.env
  plain : (backTo cpos (starEach es X.env)).any (·.1) = false
theorem named_lst {g : G} {ρ : Loc} {S : Store} {σ : St} {H : Hp} {n : Nat} {fl : Fl} {v : V} {ds : List D} (rel : Rel w g ρ S σ H) (h : Arg w g.m g.Z H (.obj n, fl) v) (e : S[n]? = some (.lst ds)) : ∃ a vs, v = .ref a ∧ g.m[n]? = some a ∧ H a = some (.lst vs) ∧ Reps w g.m g.Z H ds vs := by
  obtain ⟨a, rfl, ha⟩ := rel.named h
  obtain ⟨a', ha', bx⟩ := rel.sto.at_ n _ e
  have ea : a' = a := by rw [ha] at ha'; exact (Option.some.inj ha').symm
  subst ea
  cases bx with
  | lst hq r => exact ⟨a', _, rfl, ha, hq, r⟩
theorem e_popO {o e : Expr} {es : List Expr} {f : SE} {fs : SA} {apos cpos : Pos} (ho : PE X o (rdE w W f)) (ha : PA X (e :: es) (rdA w W fs)) (mc : MC X o "pop" apos e es cpos) :
    PE X (.Call (.Attribute o "pop" apos) (e :: es) [] cpos) (rdE w W (sPopO f fs)) := by
  refine PE.imp (pe_bm PySem.F.plainAttrs_list PySem.F.slot_list_pop PySem.F.type_list_pop mt_popAt ho ha mc.base mc.few mc.line mc.star mc.plain) fun σ H Q ⟨g, ρ, S, rel, h⟩ => ?_
  refine rdE_imp (bindE rel h goodE) fun x H1 ⟨r1, S1, m1, s1, rel1, res1, _, h1⟩ => ?_
  obtain ⟨d1, fl1⟩ := r1
  split at h1
  rotate_left
  · exact h1.elim
  rename_i n eo
  cases eo
  split at h1
  rotate_left
  · exact h1.elim
  rename_i ds0 es0
  obtain ⟨a, vs0, rfl, ha, hl0, _⟩ := named_lst rel1 res1.arg es0
  refine ⟨.inl ⟨rfl, vs0, .of hl0⟩, ?_⟩
  refine rdA_imp (bindA rel1 h1 goodE) fun xs H2 ⟨rs, S2, m2, s2', rel2, as, _, h2⟩ => ?_
  split at h2
  rotate_left
  · exact h2.elim
  rename_i j fl ds es2 _
  split at h2
  rotate_left
  · exact h2.elim
  rename_i k hk
  split at h2
  rotate_left
  · exact h2.elim
  rename_i hz
  cases as with
  | cons q t =>
    cases t
    obtain ⟨a', vs, ev, ha2, hl2, r⟩ := named_lst rel2 (s2'.arg res1.arg) es2
    cases ev
    obtain ⟨i1, i2, i3, i4⟩ := ixN_seq hk
    have hd : ds[k]? = some (ds.getD k .non) := by simp [i2]
    obtain ⟨y, hy, ry⟩ := r.get hd
    obtain ⟨s4, rel4, sm⟩ := rel2.pokeL ha2 hl2 (r.erase k)
    have hlen := r.length
    refine ⟨a, vs, j, k, y, rfl, by rw [q.int], hl2, by omega, by omega, by rw [← hlen]; exact i1, hy, h2 _ _ ⟨m2, s4, rel4, ?_⟩⟩
    exact ry.mono sm
def sAppO (f : SE) (fs : SA) : SE := fun ρ S => (f ρ S).bind fun o S1 => match o.1 with
  | .obj n => match S1[n]? with
    | some (.lst _) => (fs ρ S1).bind fun is S2 => match is, S2[n]? with
      | [r], some (.lst ds) => if leakOk r = true ∧ ds.length < sizeLine then .ok (.non, .sh) (S2.set n (.lst (ds ++ [r.1]))) else .bad
      | _, _ => .bad
    | _ => .bad
  | _ => .bad
theorem e_appO {o e : Expr} {es : List Expr} {f : SE} {fs : SA} {apos cpos : Pos} (ho : PE X o (rdE w W f)) (ha : PA X (e :: es) (rdA w W fs)) (mc : MC X o "append" apos e es cpos) :
    PE X (.Call (.Attribute o "append" apos) (e :: es) [] cpos) (rdE w W (sAppO f fs)) := by
  refine PE.imp (pe_bm PySem.F.plainAttrs_list PySem.F.slot_list_append PySem.F.type_list_append mt_append ho ha mc.base mc.few mc.line mc.star mc.plain) fun σ H Q ⟨g, ρ, S, rel, h⟩ => ?_
  refine rdE_imp (bindE rel h goodE) fun x H1 ⟨r1, S1, m1, s1, rel1, res1, _, h1⟩ => ?_
  obtain ⟨d1, fl1⟩ := r1
  split at h1
  rotate_left
  · exact h1.elim
  rename_i n eo
  cases eo
  split at h1
  rotate_left
  · exact h1.elim
  rename_i ds0 es0
  obtain ⟨a, vs0, rfl, ha, hl0, _⟩ := named_lst rel1 res1.arg es0
  refine ⟨.inl ⟨rfl, vs0, .of hl0⟩, ?_⟩
  refine rdA_imp (bindA rel1 h1 goodE) fun xs H2 ⟨rs, S2, m2, s2', rel2, as, _, h2⟩ => ?_
  split at h2
  rotate_left
  · exact h2.elim
  rename_i r0 ds es2 _
  split at h2
  rotate_left
  · exact h2.elim
  rename_i c
  cases as with
  | cons q t =>
    cases t
    obtain ⟨a', vs, ev, ha2, hl2, r⟩ := named_lst rel2 (s2'.arg res1.arg) es2
    cases ev
    obtain ⟨s4, rel4, sm⟩ := rel2.pokeL ha2 hl2 (r.snoc (q.rep c.1))
    have hlen := r.length
    exact ⟨a, vs, _, rfl, rfl, hl2, by omega, h2 _ _ ⟨m2, s4, rel4, .non⟩⟩
end
end DL

set_option maxRecDepth 100000
/-! The value layer: defs and their calls; classes. -/
namespace DL
open PySem L2
/-- a def as a function of values -/
abbrev SF := List RV → Store → R RV
def lend : Fl → Fl
  | .own => .sh
  | .sh => .sh
  | _ => .bor
def entry (n : Nat) (rs : List RV) : Loc := rs.map (fun r => some (r.1, lend r.2)) ++ List.replicate (n - rs.length) none
/-- what a body says -/
def bodyF (n : Nat) (b : SS) : SF := fun rs S => match b (entry n rs) S with
  | .rt r S' => .ok r S'
  | .nx _ S' => .ok (.non, .sh) S'
  | _ => .bad
section
variable {w : Wd} {W : WX} {X : Cx}
def PostC (w : Wd) (Q : VK) (g : G) (H : Hp) (t : R RV) : Prop := match t with
  | .ok r S' => ∀ v H', RtOk w g H r S' v H' → Q v H'
  | _ => False
/-- the state ahead of a call, as the callee sees it -/
structure Ent (w : Wd) (g : G) (H : Hp) (S : Store) : Prop where
  sto : Stored w g.m g.Z H S
  nd : g.m.Nodup
  sep : ∀ b ∈ g.m, ¬ g.Z b
  trk : ∀ b, (b ∈ g.m ∨ g.Z b) → H b ≠ none
  zo : g.zo = []
  sl : g.sl = none
/-- THE PROMISE of a def that is the function F of np arguments -/
def spF (w : Wd) (np : Nat) (F : SF) : Sp := fun vs H Q _ => ∃ g rs S, Ent w g H S ∧ Args w g.m g.Z H rs vs ∧ rs.length = np ∧ PostC w Q g H (F rs S)
theorem Args.get {m : List Addr} {Z : Addr → Prop} {H : Hp} : ∀ {rs : List RV} {vs : List V} {i : Nat} {r : RV}, Args w m Z H rs vs → rs[i]? = some r → ∃ v, vs[i]? = some v ∧ Arg w m Z H r v
  | _, _, _, _, .nil, e => by simp at e
  | _, _, 0, _, .cons h _, e => by simp at e; subst e; exact ⟨_, rfl, h⟩
  | _, _, i + 1, _, .cons _ r, e => by simp at e ⊢; exact Args.get r e
theorem lend_ne (f : Fl) : lend f ≠ .own := by cases f <;> exact fun h => by cases h
theorem entry_get {n : Nat} {rs : List RV} {i : Nat} {r : RV} (h : (entry n rs)[i]? = some (some r)) : ∃ q, rs[i]? = some q ∧ r = (q.1, lend q.2) := by
  unfold entry at h
  by_cases hi : i < rs.length
  · rw [List.getElem?_append_left (by simpa using hi), List.getElem?_map, List.getElem?_eq_getElem hi] at h
    simp at h
    exact ⟨rs[i], List.getElem?_eq_getElem hi, h.symm⟩
  · rw [List.getElem?_append_right (by simpa using hi)] at h
    rw [List.getElem?_replicate] at h
    split at h <;> cases h
theorem Ent.rel {g : G} {H : Hp} {S : Store} {rs : List RV} {vs : List V} {N : List Str} (e : Ent w g H S) (a : Args w g.m g.Z H rs vs) : Rel w g (entry N.length rs) S (L2.start N vs) H := by
  have hl := a.length
  refine ⟨?_, fun i d fl q => ?_, fun i j d e' a' q1 q2 => ?_, e.sto, e.nd, e.sep, fun b hb => ?_, e.trk, fun x d q => ?_⟩
  · unfold L2.start entry
    simp only [List.length_append, List.length_map, List.length_replicate]
    omega
  · obtain ⟨q', hq, er⟩ := entry_get q
    obtain ⟨v, hv, av⟩ := a.get hq
    have hi : i < vs.length := (List.getElem?_eq_some_iff.mp hv).1
    refine ⟨v, ?_, ?_⟩
    · unfold L2.start
      rw [List.getElem?_append_left (by simpa using hi), List.getElem?_map, hv]; rfl
    · cases er
      obtain ⟨d', fl'⟩ := q'
      have lent : ∀ {fl}, Arg w g.m g.Z H (d', fl) v → Lent w g H d' v := fun av => by
        rcases av.read with h | ⟨a, e1, b, n⟩
        · exact .inl h
        · exact .inr ⟨a, e1, b, n, by rw [e.zo]; simp⟩
      cases fl' with
      | sh => exact av
      | own => exact av
      | bor => exact lent av
      | mine => exact lent av
  · obtain ⟨q', _, er⟩ := entry_get q1
    exfalso
    exact lend_ne q'.2 (congrArg Prod.snd er).symm
  · rw [e.zo] at hb; cases hb
  · rw [e.sl] at q; cases q
/-- a def whose body is b -/
theorem fn_ok {P : Program} {pw : World} {K : PySem.W.Frag} {mg : Str → Option Value} {base : Heap} {x qual : Str} {st : Stmt} {f : Addr} {fd : FuncData} {N ps : List Str} {k : Nat} {b : SS} (F : Fun K x qual st f fd) (S : FnScope N ps (defScope st))
    (hb : ∀ (cdv : Value) (A : Around) (outer : List Env) (s : Shared) (H : Hp) (E : XK), Room k (A.deeper (PyProof.Rows.envOfC qual (defScope st) s.heap.objs.size f cdv)) → PSs (cxOf CX0 P pw K mg base N qual (defScope st) f cdv A outer s H E).nox (defBody st) (rdS w WF b)) :
    FnOk P pw K mg base CX0 (k + 1) f fd ps (spF w ps.length (bodyF N.length b)) := by
  refine F.ok S (fun vs H Q E ⟨g, rs, S, _, a, hl, _⟩ => a.length ▸ hl) fun cdv A outer s H vs Q E hr ⟨g, rs, S0, e, a, hl, post⟩ => ?_
  refine ⟨_, hb cdv A outer s H E hr, g, _, S0, e.rel a, ?_⟩
  unfold bodyF at post
  cases ev : b (entry N.length rs) S0 with
  | nx ρ S' => rw [ev] at post; exact fun σ' H' ⟨g', s', r'⟩ => post .non H' ⟨g', s', r'.sto, r'.nd, r'.sep, r'.trk, r'.sez, .non⟩
  | rt r S' => rw [ev] at post; exact post
  | bk ρ S' => rw [ev] at post; exact post.elim
  | ct ρ S' => rw [ev] at post; exact post.elim
  | ex d ρ S' => rw [ev] at post; exact post.elim
  | bad => rw [ev] at post; exact post.elim
/-- what the callee sees of the caller's state -/
def G.call (g : G) : G := { m := g.m, zo := [], zb := g.zo ++ g.zb, sl := none }
theorem G.call_Z {g : G} : g.call.Z = g.Z := by
  funext b
  unfold G.call G.Z
  simp
theorem Rel.ent {g : G} {ρ : Loc} {S : Store} {σ : St} {H : Hp} (r : Rel w g ρ S σ H) : Ent w g.call H S :=
  ⟨by rw [G.call_Z]; exact r.sto, r.nd, fun b hb => by rw [G.call_Z]; exact r.sep b hb, fun b hb => by rw [G.call_Z] at hb; exact r.trk b hb, rfl, rfl⟩
theorem RtOk.rok {g : G} {ρ : Loc} {S S' : Store} {σ : St} {H H' : Hp} {r : RV} {v : V} (rel : Rel w g ρ S σ H) (h : RtOk w g.call H r S' v H') : ROk w g H ρ σ r S' v H' := by
  obtain ⟨g', s, sto, nd, sep, trk, sez, res⟩ := h
  have se : StepE g.m H g'.m H' := ⟨fun b o e q t => s.keep b o e (q.imp (fun q => ⟨q, by simp [G.call]⟩) id) t, s.grow, s.ms⟩
  have zo : ∀ b ∈ g'.zo, H b = none := fun b hb => (s.zo b hb).elim (fun q => by cases q) id
  have zb : ∀ b, b ∈ g'.zb ↔ g.Z b := fun b => by rw [s.zb]; show b ∈ g.zo ++ g.zb ↔ _; simp [G.Z]
  have lz : ∀ b, g.Z b → g'.Z b ∨ H' b = none := fun b q => .inl (.inr ((zb b).mpr q))
  have rel' : Rel w (g.at g'.m) ρ S' σ H' := rel.step se (sto.less lz) nd fun b hb => trk b (.inl hb)
  refine ⟨g'.m, se, rel', ?_⟩
  obtain ⟨d, fl⟩ := r
  cases fl with
  | sh => exact Rep.mono (mono_z lz) res
  | bor => exact res.elim
  | mine => exact res.elim
  | own =>
    obtain ⟨a, e, nm, b, ha⟩ := res
    have lz2 : ∀ c, (g.Z c ∨ c = a) → g'.Z c ∨ H' c = none := fun c q => q.elim (lz c) fun q => .inl (.inl (q ▸ ha))
    exact ⟨a, e, zo a ha, nm, fun q => rel.trk a (.inr q) (zo a ha), b.less lz2, sto.less lz2⟩
/-- a call: drs the defaults that fill up -/
def sCall (np : Nat) (F : SF) (drs : List RV) (fs : SA) : SE := fun ρ S => (fs ρ S).bind fun rs S1 => if (rs ++ drs).length = np then (match F (rs ++ drs) S1 with
    | .ok r S2 => .ok r S2
    | _ => .bad) else .bad
theorem Args.app {m : List Addr} {Z : Addr → Prop} {H : Hp} : ∀ {rs qs : List RV} {vs us : List V}, Args w m Z H rs vs → Args w m Z H qs us → Args w m Z H (rs ++ qs) (vs ++ us)
  | _, _, _, _, .nil, h => h
  | _, _, _, _, .cons a r, h => .cons a (Args.app r h)
/-- defaults: constants -/
def DefOk (w : Wd) (drs : List RV) (dvs : List V) : Prop := ∀ m Z H, Args w m Z H drs dvs
theorem def_nil : DefOk w [] [] := fun _ _ _ => .nil
theorem def_bl {b : Bool} {drs : List RV} {dvs : List V} (h : DefOk w drs dvs) : DefOk w ((.bl b, .sh) :: drs) (.bl b :: dvs) := fun m Z H => .cons (Rep.bl b) (h m Z H)
theorem def_int {i : Int} {drs : List RV} {dvs : List V} (h : DefOk w drs dvs) : DefOk w ((.int i, .sh) :: drs) (.int i :: dvs) := fun m Z H => .cons (Rep.int i) (h m Z H)
theorem def_non {drs : List RV} {dvs : List V} (h : DefOk w drs dvs) : DefOk w ((.non, .sh) :: drs) (.non :: dvs) := fun m Z H => .cons Rep.non (h m Z H)
theorem rd_call {np : Nat} {F : SF} {drs : List RV} {dvs : List V} {fs : SA} {σ : St} {H : Hp} {Q : VK} {E : XK} (hd : DefOk w drs dvs) (h : rdE w W (sCall np F drs fs) σ H Q) : tCall (spF w np F) dvs E (rdA w W fs) σ H Q := by
  obtain ⟨g, ρ, S, rel, h⟩ := h
  refine rdA_imp (bindA rel h goodE) fun vs H1 ⟨rs, S1, m1, s1, rel1, as, _, h1⟩ => ?_
  split at h1
  rotate_left
  · exact h1.elim
  rename_i hl
  have a2 : Args w (g.at m1).call.m (g.at m1).call.Z H1 (rs ++ drs) (vs ++ dvs) := by
    rw [G.call_Z]
    exact as.app (hd _ _ _)
  refine ⟨(g.at m1).call, rs ++ drs, S1, rel1.ent, a2, hl, ?_⟩
  cases e : F (rs ++ drs) S1 with
  | ok r S2 =>
    rw [e] at h1
    exact fun v H' k => h1 v H' (RtOk.rok rel1 k)
  | exc x S2 => rw [e] at h1; exact h1.elim
  | bad => rw [e] at h1; exact h1.elim
theorem e_call {k np : Nat} {f : Addr} {fd : FuncData} {ps : List Str} {F : SF} {drs : List RV} {dvs : List V} {ds : List Value} {x : Str} {p pos : Pos} {e : Expr} {es : List Expr} {fs : SA}
    (G : FnOk X.prog X.w X.K X.mg X.base CX0 k f fd ps (spF w np F)) (hr : Room k X.A) (hg : Gl X x) (hm : X.mg x = some (.ref f)) (hk : PySem.W.keepIn X.K (.ref f) = true) (hb : Binds X.K fd ps ds) (hd : Vals dvs ds) (hdr : DefOk w drs dvs)
    (hdb : (x == ("__debug__" : Str)) = false) (he : starEach (e :: es) X.env = (false, eval e X.env) :: starEach es X.env) (hpl : (backTo pos (starEach es X.env)).any (·.1) = false) (ha : PA X (e :: es) (rdA w W fs)) :
    PE X (.Call (.Name x p) (e :: es) [] pos) (rdE w W (sCall np F drs fs)) :=
  PE.imp (pe_call G hr hg hm hk hb hd pass0 ha hdb he hpl) fun _ _ _ h => rd_call hdr h
theorem rdA_nil {σ : St} {H : Hp} {Q : List V → Hp → Prop} (h : rdA w W sNil σ H Q) : tNil σ H Q := by
  obtain ⟨g, ρ, S, rel, h⟩ := h
  exact h [] H ⟨g.m, .refl _ _, rel, .nil⟩
theorem e_call0 {k np : Nat} {f : Addr} {fd : FuncData} {ps : List Str} {F : SF} {drs : List RV} {dvs : List V} {ds : List Value} {x : Str} {p pos : Pos}
    (G : FnOk X.prog X.w X.K X.mg X.base CX0 k f fd ps (spF w np F)) (hr : Room k X.A) (hg : Gl X x) (hm : X.mg x = some (.ref f)) (hk : PySem.W.keepIn X.K (.ref f) = true) (hb : Binds X.K fd ps ds) (hd : Vals dvs ds) (hdr : DefOk w drs dvs)
    (hdb : (x == ("__debug__" : Str)) = false) : PE X (.Call (.Name x p) [] [] pos) (rdE w W (sCall np F drs sNil)) :=
  PE.imp (pe_call0 G hr hg hm hk hb hd pass0 hdb) fun _ _ _ h => rdA_nil (rd_call (E := E0) hdr h)
end
end DL

set_option maxRecDepth 100000
/-! The value layer: instances of own classes. -/
namespace DL
open PySem L2
section
variable {w : Wd} {W : WX} {X : Cx}
def getN (fs : List (String × D)) (x : String) : Option D := (fs.find? fun p => p.1 == x).map (·.2)
def putN (x : String) (d : D) : List (String × D) → List (String × D)
  | [] => [(x, d)]
  | (y, e) :: r => if y = x then (y, d) :: r else (y, e) :: putN x d r
theorem getN_cons {y x : String} {e : D} {r : List (String × D)} : getN ((y, e) :: r) x = if y = x then some e else getN r x := by
  unfold getN
  rw [List.find?_cons]
  by_cases h : y = x
  · subst h; simp
  · rw [beq_eq_false_iff_ne.mpr h]; simp [h]
theorem RepN.get {m : List Addr} {Z : Addr → Prop} {H : Hp} {x : String} : ∀ {fs : List (String × D)} {gs : List (Str × V)}, RepN w m Z H fs gs → (getN fs x = none → gs.lookup (s2 x) = none) ∧ ∀ d, getN fs x = some d → ∃ v, gs.lookup (s2 x) = some v ∧ Rep w m Z H d v
  | _, _, .nil => ⟨fun _ => rfl, fun _ e => by cases e⟩
  | _, _, .cons (x := y) (d := e) (v := v) (fs := fs) (gs := gs) h r => by
    have ih := RepN.get (x := x) r
    rw [getN_cons, List.lookup_cons]
    by_cases hy : y = x
    · subst hy
      simp only [if_true, beq_self_eq_true]
      refine ⟨fun z => ?_, fun d z => ?_⟩
      · cases z
      · cases z
        exact ⟨v, rfl, h⟩
    · have : (s2 x == s2 y) = false := beq_eq_false_iff_ne.mpr fun q => hy (s2_inj q).symm
      rw [this, if_neg hy]
      exact ih
theorem RepN.put {m : List Addr} {Z : Addr → Prop} {H : Hp} {x : String} {d : D} {v : V} (hv : Rep w m Z H d v) : ∀ {fs : List (String × D)} {gs : List (Str × V)}, RepN w m Z H fs gs → RepN w m Z H (putN x d fs) (putF (s2 x) v gs)
  | _, _, .nil => .cons hv .nil
  | _, _, .cons (x := y) h r => by
    unfold putN putF
    by_cases hy : y = x
    · subst hy
      simp only [if_true]
      exact .cons hv r
    · rw [if_neg hy, if_neg fun q => hy (s2_inj q)]
      exact .cons h (RepN.put hv r)
theorem RepN.length {m : List Addr} {Z : Addr → Prop} {H : Hp} : ∀ {fs : List (String × D)} {gs : List (Str × V)}, RepN w m Z H fs gs → fs.length = gs.length
  | _, _, .nil => rfl
  | _, _, .cons _ r => by rw [List.length_cons, List.length_cons, RepN.length r]
theorem Look.ins {m : List Addr} {Z : Addr → Prop} {H : Hp} {c : Nat} {fs : List (String × D)} {v : V} (h : Look w m Z H (.ins c fs) v) : ∃ a dx gs, v = .ref a ∧ H a = some (.ins (w.cl c) dx gs) ∧ RepN w m Z H fs gs := by
  rcases h with h | ⟨a, e, b⟩
  · cases h with
    | box b => cases b with | ins h r => exact ⟨_, _, _, rfl, h, r⟩
  · cases b with | ins h r => exact ⟨_, _, _, e, h, r⟩
/-- one of several readings of an expression -/
theorem PE.any {e : Expr} {I : Type} {P : I → Prop} {t : I → TE} (h : ∀ i, P i → PE X e (t i)) : PE X e (fun σ H Q => ∃ i, P i ∧ t i σ H Q) := ⟨fun pins s σ H Q J ⟨i, p, q⟩ => (h i p).run pins s σ H Q J q⟩
/-! ### attributes -/
def sFld (x : String) (f : SE) (okc : Nat → Bool) : SE := fun ρ S => (f ρ S).bind fun r S1 => match view S1 r.1 with
  | .ins c fs => if okc c = true then (match getN fs x with | some d => .ok (d, .sh) S1 | none => .bad) else .bad
  | _ => .bad
theorem e_fld {e : Expr} {f : SE} {x : String} {pos : Pos} {okc : Nat → Bool} (hc : ∀ c, okc c = true → Cls X.K (w.cl c) ∧ NoAttr X.K (w.cl c) (s2 x)) (hb : attributeBase e (s2 x) X.env (eval e X.env) = eval e X.env) (he : PE X e (rdE w W f)) :
    PE X (.Attribute e (s2 x) pos) (rdE w W (sFld x f okc)) := by
  refine PE.imp (pe_fld he hb) fun σ H Q ⟨g, ρ, S, rel, h⟩ => ?_
  refine rdE_imp (bindE rel h goodE) fun v H1 ⟨r1, S1, m1, s1, rel1, res1, _, h1⟩ => ?_
  have l := look_view rel1 res1.arg
  split at h1
  rotate_left
  · exact h1.elim
  rename_i c fs ed
  rw [ed] at l
  obtain ⟨a, dx, gs, rfl, hi, rn⟩ := l.ins
  split at h1
  rotate_left
  · exact h1.elim
  rename_i oc
  split at h1
  rotate_left
  · exact h1.elim
  rename_i d eg
  obtain ⟨u, hu, ru⟩ := (rn.get (x := x)).2 d eg
  exact ⟨a, _, dx, gs, u, rfl, hi, (hc c oc).1, (hc c oc).2, hu, h1 _ _ (.same rel1 ru)⟩
/-- self.x = value; self in the first slot -/
def sFldS (x : String) (f : SE) (okc : Nat → Bool) : SS := fun ρ S => goS (f ρ S) ρ fun r S1 => match ρ[(0 : Nat)]? with
  | some (some (.ins c fs, .own)) => if leakOk r = true ∧ okc c = true ∧ fs.length < 1000 then .nx (ρ.set 0 (some (.ins c (putN x r.1 fs), .own))) S1 else .bad
  | _ => .bad
/-- one's own box in slot i changes -/
theorem Rel.pokeOwn {g : G} {ρ : Loc} {S : Store} {σ : St} {H : Hp} {i : Nat} {a : Addr} {d0 d : D} {o : HO} (rel : Rel w g ρ S σ H) (hi : ρ[i]? = some (some (d0, .own))) (hs : σ[i]? = some (some (.ref a))) (az : a ∈ g.zo) (nm : a ∉ g.m)
    (hf : ∀ u, H a = some u → ¬ fixO a u) (b : BoxW w g.m g.Z (upd H a o) d a) (M : Mono g.m g.Z H g.m g.Z (upd H a o)) : StepS g H g (upd H a o) ∧ Rel w g (ρ.set i (some (d, .own))) S σ (upd H a o) := by
  have hil : i < ρ.length := (List.getElem?_eq_some_iff.mp hi).1
  have s : StepS g H g (upd H a o) := by
    refine ⟨fun b u e q t => ?_, fun b e => ?_, ⟨[], by simp⟩, fun b q => .inl q, rfl, rfl⟩
    · by_cases hb : b = a
      · subst hb
        rcases q with q | q
        · exact absurd az q.2
        · exact absurd q (hf u e)
      · rw [upd_ne hb]; exact e
    · by_cases hb : b = a
      · rw [hb, upd_same] at e; cases e
      · rw [upd_ne hb] at e; exact e
  have bx : ∀ {d c}, c ≠ a → BoxW w g.m g.Z H d c → BoxW w g.m g.Z (upd H a o) d c := fun ne b => by
    cases b with
    | lst h r => exact .lst (by rw [upd_ne ne]; exact h) (r.mono M)
    | dk h r => exact .dk (by rw [upd_ne ne]; exact h) (r.mono M)
    | dt h r => exact .dt (by rw [upd_ne ne]; exact h) (r.mono M)
    | ins h r => exact .ins (by rw [upd_ne ne]; exact h) (r.mono M)
  refine ⟨s, by rw [List.length_set]; exact rel.len, fun j e fl q => ?_, fun j k e e' c q1 q2 p1 p2 => ?_, ⟨rel.sto.len, fun k e q => ?_⟩, rel.nd, rel.sep, rel.sez, fun b q => ?_, fun x e hx q => ?_⟩
  · by_cases hj : i = j
    · subst hj
      rw [List.getElem?_set_self hil] at q
      cases q
      exact ⟨.ref a, hs, a, rfl, b, az, nm⟩
    · rw [List.getElem?_set_ne hj] at q
      obtain ⟨v, hv, held⟩ := rel.loc j e fl q
      refine ⟨v, hv, ?_⟩
      cases fl with
      | sh => exact Rep.mono M held
      | mine => exact held.elim
      | bor =>
        rcases held with h | ⟨c, e1, bb, n, z⟩
        · exact .inl (h.mono M)
        · have ne : c ≠ a := fun q => z (q ▸ az)
          refine .inr ⟨c, e1, ?_, n, z⟩
          cases bb with
          | lst h r => exact .lst (by rw [upd_ne ne]; exact h) (r.mono M)
          | dk h r => exact .dk (by unfold Rd; rw [upd_ne ne]; exact h) (r.mono M)
          | dt h r => exact .dt (by unfold Rd; rw [upd_ne ne]; exact h) (r.mono M)
          | ins h r => exact .ins (by rw [upd_ne ne]; exact h) (r.mono M)
      | own =>
        obtain ⟨c, e1, bb, z, n⟩ := held
        have ne : c ≠ a := fun q => by
          subst q
          subst e1
          exact hj (rel.inj i j d0 e c hi q hs hv)
        exact ⟨c, e1, bx ne bb, z, n⟩
  · have up : ∀ {j : Nat} {e : D}, (ρ.set i (some (d, .own)))[j]? = some (some (e, .own)) → ∃ e', ρ[j]? = some (some (e', .own)) := fun {j e} q => by
      by_cases hj : i = j
      · subst hj; exact ⟨d0, hi⟩
      · rw [List.getElem?_set_ne hj] at q; exact ⟨e, q⟩
    obtain ⟨_, q1⟩ := up q1
    obtain ⟨_, q2⟩ := up q2
    exact rel.inj j k _ _ c q1 q2 p1 p2
  · obtain ⟨c, hc, bb⟩ := rel.sto.at_ k e q
    exact ⟨c, hc, bx (fun q => nm (q ▸ List.mem_of_getElem? hc)) bb⟩
  · by_cases hb : b = a
    · rw [hb, upd_same]; simp
    · rw [upd_ne hb]; exact rel.trk b q
  · by_cases h0 : i = 0
    · subst h0
      exact rel.slf x d0 hx hi
    · rw [List.getElem?_set_ne h0] at q
      exact rel.slf x e hx q
theorem mono_own {g : G} {H : Hp} {a : Addr} {o u : HO} (az : a ∈ g.zo) (h : H a = some u) (hu : exO u = true ∨ boxO u = true) : Mono g.m g.Z H g.m g.Z (upd H a o) := by
  refine mono_upd (.inl az) (fun xs q => ?_) (fun ob xs q => ?_) (fun cls d q => ?_) fun gs q => ?_ <;> rw [h] at q
  · cases q; rcases hu with hu | hu <;> cases hu
  · cases q; rcases hu with hu | hu <;> cases hu
  · unfold ExcO at q; cases q; rcases hu with hu | hu <;> cases hu
  · cases q; rcases hu with hu | hu <;> cases hu
theorem st_fldS {value : Expr} {f : SE} {x : String} {y : Str} {p pos pos' : Pos} {okc : Nat → Bool} (hc : ∀ c, okc c = true → Cls X.K (w.cl c) ∧ NoAttr X.K (w.cl c) (s2 x)) (hN : X.N[0]? = some y) (hv : Vis X.env.scope y) (hd : (y == ("__debug__" : Str)) = false)
    (hcd : (y == ("__classdict__" : Str)) = false) (hs : swapsWith value (some (.Attribute (.Name y p) (s2 x) pos')) pos.line X.env = pure false) (he : PE X value (rdE w W f)) :
    PS X (.Assign [.Attribute (.Name y p) (s2 x) pos'] value pos) (rdS w W (sFldS x f okc)) := by
  refine PS.imp (ps_fld (pe_var hN hv hd hcd) he hs) fun D σ H ⟨g, ρ, S, rel, h⟩ => ?_
  refine rdE_imp (bindE rel h goodS) fun v H1 ⟨r1, S1, m1, s1, rel1, res1, _, h1⟩ => ?_
  split at h1
  rotate_left
  · exact h1.elim
  rename_i c fs e0
  split at h1
  rotate_left
  · exact h1.elim
  rename_i cc
  obtain ⟨lk, oc, hz⟩ := cc
  obtain ⟨u, hu, a, rfl, bx, az, nm⟩ := rel1.loc 0 _ _ e0
  refine ⟨.ref a, hu, ?_⟩
  cases bx with
  | ins hi rn =>
    have M : ∀ o, Mono m1 g.Z H1 m1 g.Z (upd H1 a o) := fun o => mono_own (g := g.at m1) az hi (.inl rfl)
    have nf : ∀ u, H1 a = some u → ¬ fixO a u := fun u e q => by
      rw [hi] at e
      cases e
      rcases q with ⟨_, q⟩ | ⟨_, _, q⟩ | ⟨_, q⟩ | ⟨_, _, q⟩ <;> first | cases q | (unfold ExcO at q; cases q)
    obtain ⟨s2', rel2⟩ := Rel.pokeOwn (g := g.at m1) (d := .ins c (putN x r1.1 fs)) (o := .ins (w.cl c) _ (putF (s2 x) v _)) rel1 e0 hu az nm nf (.ins upd_same ((RepN.put (res1.arg.rep lk) rn).mono (M _))) (M _)
    exact ⟨a, _, _, _, rfl, hi, (hc c oc).1, (hc c oc).2, by rw [← rn.length]; exact hz, h1 _ _ ⟨_, s2', rel2⟩⟩
end
end DL

set_option maxRecDepth 100000
/-! The value layer: making instances; properties; own operators. -/
namespace DL
open PySem L2
section
variable {w : Wd} {W : WX} {X : Cx}
theorem Arg.less {m : List Addr} {Z Z' : Addr → Prop} {H : Hp} {r : RV} {v : V} (h : Arg w m Z H r v) (hz : ∀ b, Z' b → Z b ∨ H b = none) : Arg w m Z' H r v := by
  have rd : ∀ {d}, Read w m Z H d v → Read w m Z' H d v := fun {d} q => q.mono (mono_z hz) (fun _ _ _ h n => ⟨h, n⟩) fun _ _ _ h n => ⟨h, n⟩
  obtain ⟨d, fl⟩ := r
  cases fl with
  | sh => exact Rep.mono (mono_z hz) h
  | own => exact Rep.mono (mono_z hz) h
  | bor => exact rd h
  | mine => exact rd h
theorem Args.less {m : List Addr} {Z Z' : Addr → Prop} {H : Hp} (hz : ∀ b, Z' b → Z b ∨ H b = none) : ∀ {rs : List RV} {vs : List V}, Args w m Z H rs vs → Args w m Z' H rs vs
  | _, _, .nil => .nil
  | _, _, .cons a r => .cons (a.less hz) (Args.less hz r)
/-- what comes back from a callee that saw gc at H2, by a caller that stood at H -/
theorem RtOk.rokG {g gc : G} {ρ : Loc} {S S' : Store} {σ : St} {H H2 H' : Hp} {r : RV} {v : V} (rel : Rel w g ρ S σ H) (s0 : StepE g.m H g.m H2) (hm : gc.m = g.m) (hz : ∀ b ∈ gc.zo, H b = none) (hb : ∀ b, b ∈ gc.zb ↔ g.Z b) (h : RtOk w gc H2 r S' v H') : ROk w g H ρ σ r S' v H' := by
  obtain ⟨g', s, sto, nd, sep, trk, sez, res⟩ := h
  have fr : ∀ b ∈ g'.zo, H b = none := fun b q => (s.zo b q).elim (hz b) fun q => s0.grow b q
  have se : StepE g.m H g'.m H' := by
    refine ⟨fun b o e q t => s.keep b o (s0.keep b o e q t) (q.imp (fun q => ⟨by rw [hm]; exact q, fun z => by rw [hz b z] at e; cases e⟩) id) t, fun b q => s0.grow b (s.grow b q), ?_⟩
    obtain ⟨ex, e, hx⟩ := s.ms
    exact ⟨ex, by rw [e, hm], fun b q => s0.grow b (hx b q)⟩
  have zb : ∀ b, b ∈ g'.zb ↔ g.Z b := fun b => by rw [s.zb]; exact hb b
  have lz : ∀ b, g.Z b → g'.Z b ∨ H' b = none := fun b q => .inl (.inr ((zb b).mpr q))
  have rel' : Rel w (g.at g'.m) ρ S' σ H' := rel.step se (sto.less lz) nd fun b q => trk b (.inl q)
  refine ⟨g'.m, se, rel', ?_⟩
  obtain ⟨d, fl⟩ := r
  cases fl with
  | sh => exact Rep.mono (mono_z lz) res
  | bor => exact res.elim
  | mine => exact res.elim
  | own =>
    obtain ⟨a, e, nm, b, ha⟩ := res
    have lz2 : ∀ c, (g.Z c ∨ c = a) → g'.Z c ∨ H' c = none := fun c q => q.elim (lz c) fun q => .inl (.inl (q ▸ ha))
    exact ⟨a, e, fr a ha, nm, fun q => rel.trk a (.inr q) (fr a ha), b.less lz2, sto.less lz2⟩
/-! ### __init__ -/
def entryI (n c : Nat) (rs : List RV) : Loc := some (.ins c [], .own) :: (rs.map (fun r => some (r.1, lend r.2)) ++ List.replicate (n - (rs.length + 1)) none)
def initF (n c : Nat) (b : SS) : SF := fun rs S => match b (entryI n c rs) S with
  | .nx ρ S' => (match ρ[(0 : Nat)]? with
    | some (some (.ins c' fs, .own)) => .ok (.ins c' fs, .own) S'
    | _ => .bad)
  | _ => .bad
structure EntI (w : Wd) (g : G) (H : Hp) (S : Store) (x : Addr) : Prop where
  sto : Stored w g.m g.Z H S
  nd : g.m.Nodup
  sep : ∀ b ∈ g.m, ¬ g.Z b
  trk : ∀ b, (b ∈ g.m ∨ g.Z b) → H b ≠ none
  zo : g.zo = [x]
  zb : x ∉ g.zb
  sl : g.sl = some x
/-- what is lent is not the new one -/
def LentAll (w : Wd) (g : G) (H : Hp) (rs : List RV) (us : List V) : Prop := ∀ (i : Nat) r v, rs[i]? = some r → us[i]? = some v → Read w g.m g.Z H r.1 v → Lent w g H r.1 v
/-- THE PROMISE of an __init__ -/
def spI (w : Wd) (c np : Nat) (F : SF) : Sp := fun vs H Q _ => ∃ g rs S x dx us, vs = .ref x :: us ∧ H x = some (.ins (w.cl c) dx []) ∧ EntI w g H S x ∧ Args w g.m g.Z H rs us ∧ LentAll w g H rs us ∧ rs.length + 1 = np ∧
  match F rs S with
  | .ok r S' => ∀ H', RtOk w g H r S' (.ref x) H' → Q .non H'
  | _ => False
theorem entryI_get {n c : Nat} {rs : List RV} {i : Nat} {r : RV} (h : (entryI n c rs)[i]? = some (some r)) : (i = 0 ∧ r = (.ins c [], .own)) ∨ ∃ j q, i = j + 1 ∧ rs[j]? = some q ∧ r = (q.1, lend q.2) := by
  cases i with
  | zero => left; unfold entryI at h; simp at h; exact ⟨rfl, h.symm⟩
  | succ j =>
    right
    unfold entryI at h
    rw [List.getElem?_cons_succ] at h
    by_cases hi : j < rs.length
    · rw [List.getElem?_append_left (by simpa using hi), List.getElem?_map, List.getElem?_eq_getElem hi] at h
      simp at h
      exact ⟨j, rs[j], rfl, List.getElem?_eq_getElem hi, h.symm⟩
    · rw [List.getElem?_append_right (by simpa using hi)] at h
      rw [List.getElem?_replicate] at h
      split at h <;> cases h
theorem EntI.rel {g : G} {H : Hp} {S : Store} {x dx : Addr} {c : Nat} {rs : List RV} {vs : List V} {N : List Str} (e : EntI w g H S x) (hx : H x = some (.ins (w.cl c) dx [])) (a : Args w g.m g.Z H rs vs) (la : LentAll w g H rs vs) : Rel w g (entryI N.length c rs) S (L2.start N (.ref x :: vs)) H := by
  have hl := a.length
  have xm : x ∉ g.m := fun q => e.sep x q (.inl (by rw [e.zo]; simp))
  have zx : x ∈ g.zo := by rw [e.zo]; simp
  refine ⟨?_, fun i d fl q => ?_, fun i j d e' a' q1 q2 p1 p2 => ?_, e.sto, e.nd, e.sep, fun b hb => ?_, e.trk, fun y d q h => ?_⟩
  · unfold L2.start entryI
    simp only [List.length_append, List.length_map, List.length_replicate, List.length_cons]
    omega
  · rcases entryI_get q with ⟨rfl, er⟩ | ⟨j, q', rfl, hq, er⟩
    · cases er
      exact ⟨.ref x, rfl, x, rfl, .ins hx .nil, zx, xm⟩
    · obtain ⟨v, hv, av⟩ := a.get hq
      have hi : j < vs.length := (List.getElem?_eq_some_iff.mp hv).1
      refine ⟨v, ?_, ?_⟩
      · unfold L2.start
        rw [List.map_cons, List.cons_append, List.getElem?_cons_succ, List.getElem?_append_left (by simpa using hi), List.getElem?_map, hv]; rfl
      · cases er
        obtain ⟨d', fl'⟩ := q'
        have rd : Read w g.m g.Z H d' v → Lent w g H d' v := la j _ v hq hv
        cases fl' with
        | sh => exact av
        | own => exact av
        | bor => exact rd av
        | mine => exact rd av
  · have z : ∀ {i : Nat} {d : D}, (entryI N.length c rs)[i]? = some (some (d, .own)) → i = 0 := fun {i d} q => by
      rcases entryI_get q with ⟨rfl, _⟩ | ⟨j, q', _, _, er⟩
      · rfl
      · exact absurd (congrArg Prod.snd er).symm (lend_ne q'.2)
    rw [z q1, z q2]
  · rw [e.zo] at hb
    rw [List.mem_singleton.mp hb]
    exact e.zb
  · rw [e.sl] at q
    cases q
    rfl
/-- an __init__ whose body is b -/
theorem init_ok {P : Program} {pw : World} {K : PySem.W.Frag} {mg : Str → Option Value} {base : Heap} {x qual : Str} {st : Stmt} {f : Addr} {fd : FuncData} {N ps : List Str} {k c : Nat} {b : SS} (F : Fun K x qual st f fd) (S : FnScope N ps (defScope st))
    (hb : ∀ (cdv : Value) (A : Around) (outer : List Env) (s : Shared) (H : Hp) (E : XK), Room k (A.deeper (PyProof.Rows.envOfC qual (defScope st) s.heap.objs.size f cdv)) → PSs (cxOf CX0 P pw K mg base N qual (defScope st) f cdv A outer s H E).nox (defBody st) (rdS w WF b)) :
    FnOk P pw K mg base CX0 (k + 1) f fd ps (spI w c ps.length (initF N.length c b)) := by
  refine F.ok S (fun vs H Q E ⟨g, rs, S, x, dx, us, ev, _, _, a, _, hl, _⟩ => by rw [ev, List.length_cons, ← a.length, hl]) fun cdv A outer s H vs Q E hr ⟨g, rs, S0, x, dx, us, ev, hx, e, a, la, hl, post⟩ => ?_
  subst ev
  refine ⟨_, hb cdv A outer s H E hr, g, _, S0, e.rel hx a la, ?_⟩
  unfold initF at post
  cases ev : b (entryI N.length c rs) S0 with
  | nx ρ S' =>
    rw [ev] at post
    dsimp only at post
    intro σ' H' ⟨g', s', r'⟩
    cases e0 : ρ[(0 : Nat)]? with
    | none => rw [e0] at post; exact post.elim
    | some o =>
      cases o with
      | none => rw [e0] at post; exact post.elim
      | some q =>
        obtain ⟨d, fl⟩ := q
        cases d with
        | ins c' fs =>
          cases fl with
          | own =>
            rw [e0] at post
            obtain ⟨v, hv, y, rfl, bx, yz, ym⟩ := r'.loc 0 _ _ e0
            have hxy := r'.slf x _ (s'.sl.trans e.sl) e0
            rw [hv] at hxy
            cases hxy
            exact post H' ⟨g', s', r'.sto, r'.nd, r'.sep, r'.trk, r'.sez, x, rfl, ym, bx, yz⟩
          | _ => rw [e0] at post; exact post.elim
        | _ => rw [e0] at post; cases fl <;> exact post.elim
  | rt r S' => rw [ev] at post; exact post.elim
  | bk ρ S' => rw [ev] at post; exact post.elim
  | ct ρ S' => rw [ev] at post; exact post.elim
  | ex d ρ S' => rw [ev] at post; exact post.elim
  | bad => rw [ev] at post; exact post.elim
theorem Arg.lentN {g : G} {H H' : Hp} {m : List Addr} {zb : List Addr} {x : Addr} {sl : Option Addr} {r : RV} {v : V} (hx : H x = none) (h : Arg w g.m g.Z H r v) (s : StepE g.m H g.m H') (hz : ∀ b, b ∈ zb ↔ g.Z b) :
    Arg w g.m (G.mk g.m [x] zb sl).Z H' r v ∧ (Read w g.m (G.mk g.m [x] zb sl).Z H' r.1 v → Read w g.m g.Z H r.1 v → Lent w (G.mk g.m [x] zb sl) H' r.1 v) := by
  have lz : ∀ b, (G.mk g.m [x] zb sl).Z b → g.Z b ∨ H b = none := fun b q => by
    rcases q with q | q
    · exact .inr (by rw [List.mem_singleton.mp q]; exact hx)
    · exact .inl ((hz b).mp q)
  refine ⟨s.arg (h.less lz), ?_⟩
  obtain ⟨d, fl⟩ := r
  intro _ q
  have q : Read w g.m g.Z H d v := q
  show Lent w (G.mk g.m [x] zb sl) H' d v
  rcases q with q | ⟨a, e, b, n⟩
  · exact .inl (s.rep (Rep.mono (mono_z lz) q))
  · have ne : a ≠ x := fun z => b.ne (by rw [z]; exact hx)
    have M : Mono g.m g.Z H g.m (G.mk g.m [x] zb sl).Z H := mono_z lz
    have M2 : Mono g.m (G.mk g.m [x] zb sl).Z H g.m (G.mk g.m [x] zb sl).Z H' := s.mono fun _ q => q
    refine .inr ⟨a, e, ?_, n, fun q => ne (List.mem_singleton.mp q)⟩
    cases b with
    | lst h r => exact .lst (s.keep _ _ h (.inl n) (fun _ q => by cases q)) ((r.mono M).mono M2)
    | dk h r => exact .dk (s.rd h n (fun _ q => by cases q)) ((r.mono M).mono M2)
    | dt h r => exact .dt (s.rd h n (fun _ q => by cases q)) ((r.mono M).mono M2)
    | ins h r => exact .ins (s.keep _ _ h (.inl n) (fun _ q => by cases q)) ((r.mono M).mono M2)
theorem ArgsN {g : G} {H H' : Hp} {zb : List Addr} {x : Addr} {sl : Option Addr} (hx : H x = none) (s : StepE g.m H g.m H') (hz : ∀ b, b ∈ zb ↔ g.Z b) : ∀ {rs : List RV} {vs : List V}, Args w g.m g.Z H rs vs → Args w g.m (G.mk g.m [x] zb sl).Z H' rs vs
  | _, _, .nil => .nil
  | _, _, .cons a r => .cons (a.lentN (m := g.m) (sl := sl) hx s hz).1 (ArgsN hx s hz r)
/-- C(..), a new instance -/
def sMake (np : Nat) (F : SF) (drs : List RV) (fs : SA) : SE := fun ρ S => (fs ρ S).bind fun rs S1 => if (rs ++ drs).length + 1 = np then (match F (rs ++ drs) S1 with
    | .ok r S2 => .ok r S2
    | _ => .bad) else .bad
theorem rd_make {np c : Nat} {F : SF} {drs : List RV} {dvs : List V} {fs : SA} {σ : St} {H : Hp} {Q : VK} {E : XK} (hd : DefOk w drs dvs) (h : rdE w W (sMake np F drs fs) σ H Q) : tMake (w.cl c) (spI w c np F) dvs E (rdA w W fs) σ H Q := by
  obtain ⟨g, ρ, S, rel, h⟩ := h
  refine rdA_imp (bindA rel h goodE) fun vs H1 ⟨rs, S1, m1, s1, rel1, as, _, h1⟩ => ?_
  split at h1
  rotate_left
  · exact h1.elim
  rename_i hl
  intro x dx hx hdx hne
  have s0 : StepE m1 H1 m1 (upd (upd H1 dx (.own x)) x (.ins (w.cl c) dx [])) := by
    have a : StepE m1 H1 m1 (upd H1 dx (.own x)) := .new hdx
    have b : StepE m1 (upd H1 dx (.own x)) m1 (upd (upd H1 dx (.own x)) x (.ins (w.cl c) dx [])) := .new (by rw [upd_ne (fun z => hne z.symm)]; exact hx)
    exact a.trans b
  have hz : ∀ b, b ∈ g.zo ++ g.zb ↔ (g.at m1).Z b := fun b => by simp [G.Z]
  have nm : x ∉ m1 := fun q => rel1.trk x (.inl q) hx
  have nz : ¬ g.Z x := fun q => rel1.trk x (.inr q) hx
  have a2 : Args w m1 g.Z H1 (rs ++ drs) (vs ++ dvs) := as.app (hd _ _ _)
  have lz : ∀ b, (G.mk m1 [x] (g.zo ++ g.zb) (some x)).Z b → g.Z b ∨ H1 b = none := fun b q => by
    rcases q with q | q
    · exact .inr (by rw [List.mem_singleton.mp q]; exact hx)
    · exact .inl ((hz b).mp q)
  refine ⟨G.mk m1 [x] (g.zo ++ g.zb) (some x), rs ++ drs, S1, x, dx, vs ++ dvs, rfl, upd_same, ⟨?_, rel1.nd, fun b hb z => ?_, fun b q => ?_, rfl, fun q => nz ((hz x).mp q), rfl⟩, ArgsN (g := g.at m1) hx s0 hz a2, fun i r v h1 h2 hr => ?_, hl, ?_⟩
  · have q : Stored w m1 (G.mk m1 [x] (g.zo ++ g.zb) (some x)).Z H1 S1 := rel1.sto.less lz
    exact q.step s0 fun b hb => by
      rw [upd_ne (fun z => nm (by rw [← z]; exact hb)), upd_ne (fun z => rel1.trk b (.inl hb) (by rw [z]; exact hdx))]
  · rcases z with z | z
    · exact nm (by rw [← List.mem_singleton.mp z]; exact hb)
    · exact rel1.sep b hb ((hz b).mp z)
  · intro z
    have z1 := s0.grow b z
    rcases q with q | q | q
    · exact rel1.trk b (.inl q) z1
    · rw [List.mem_singleton.mp q, upd_same] at z
      cases z
    · exact rel1.trk b (.inr ((hz b).mp q)) z1
  · obtain ⟨v', hv', av⟩ := a2.get h1
    rw [h2] at hv'
    cases hv'
    exact (av.lentN (m := m1) (g := g.at m1) (sl := some x) hx s0 hz).2 hr av.read
  · cases e : F (rs ++ drs) S1 with
    | ok r S2 =>
      rw [e] at h1
      exact fun H' k => ⟨rfl, h1 (.ref x) H' (RtOk.rokG (g := g.at m1) (gc := G.mk m1 [x] (g.zo ++ g.zb) (some x)) rel1 s0 rfl (fun b q => by rw [List.mem_singleton.mp q]; exact hx) hz k)⟩
    | exc y S2 => rw [e] at h1; exact h1.elim
    | bad => rw [e] at h1; exact h1.elim
theorem e_make {k np c : Nat} {f : Addr} {fd : FuncData} {ps : List Str} {F : SF} {drs : List RV} {dvs : List V} {ds : List Value} {x : Str} {p pos : Pos} {e : Expr} {es : List Expr} {fs : SA} (M : Mk X.K (w.cl c) f)
    (G : FnOk X.prog X.w X.K X.mg X.base CX0 k f fd ps (spI w c np F)) (hr : Room (k + 1) X.A) (hg : Gl X x) (hm : X.mg x = some (.ref (w.cl c))) (hb : Binds X.K fd ps ds) (hd : Vals dvs ds) (hdr : DefOk w drs dvs)
    (hdb : (x == ("__debug__" : Str)) = false) (he : starEach (e :: es) X.env = (false, eval e X.env) :: starEach es X.env) (hpl : (backTo pos (starEach es X.env)).any (·.1) = false) (ha : PA X (e :: es) (rdA w W fs)) :
    PE X (.Call (.Name x p) (e :: es) [] pos) (rdE w W (sMake np F drs fs)) :=
  PE.imp (pe_make M G hr hg hm hb hd pass0 ha hdb he hpl) fun _ _ _ h => rd_make hdr h
theorem e_make0 {k np c : Nat} {f : Addr} {fd : FuncData} {ps : List Str} {F : SF} {drs : List RV} {dvs : List V} {ds : List Value} {x : Str} {p pos : Pos} (M : Mk X.K (w.cl c) f)
    (G : FnOk X.prog X.w X.K X.mg X.base CX0 k f fd ps (spI w c np F)) (hr : Room (k + 1) X.A) (hg : Gl X x) (hm : X.mg x = some (.ref (w.cl c))) (hb : Binds X.K fd ps ds) (hd : Vals dvs ds) (hdr : DefOk w drs dvs)
    (hdb : (x == ("__debug__" : Str)) = false) : PE X (.Call (.Name x p) [] [] pos) (rdE w W (sMake np F drs sNil)) :=
  PE.imp (pe_make0 M G hr hg hm hb hd pass0 hdb) fun σ H Q h => by
    have := rd_make (c := c) (E := E0) hdr h
    exact rdA_nil this
/-! ### a property -/
def sProp (F : SF) (okc : Nat → Bool) (f : SE) : SE := fun ρ S => (f ρ S).bind fun r S1 => match r.1 with
  | .ins c fs => if okc c = true then (match F [(.ins c fs, lend r.2)] S1 with
      | .ok q S2 => .ok q S2
      | _ => .bad) else .bad
  | _ => .bad
/-- one argument, an instance -/
theorem ent_one {np : Nat} {F : SF} {g : G} {ρ : Loc} {S : Store} {σ : St} {H : Hp} {r : RV} {v : V} {Q : VK} {E : XK} (rel : Rel w g ρ S σ H) (h : Arg w g.m g.Z H r v) (hn : np = 1) (post : PostE w W ρ σ Q g H (match F [(r.1, lend r.2)] S with
      | .ok q S2 => .ok q S2
      | _ => .bad)) : spF w np F [v] H Q E := by
  have a1 : Arg w g.call.m g.call.Z H (r.1, lend r.2) v := by
    rw [G.call_Z]
    obtain ⟨d, fl⟩ := r
    cases fl <;> exact h
  refine ⟨g.call, [(r.1, lend r.2)], S, rel.ent, .cons a1 .nil, hn.symm, ?_⟩
  cases e : F [(r.1, lend r.2)] S with
  | ok q S2 => rw [e] at post; exact fun v' H' k => post v' H' (RtOk.rok rel k)
  | exc x S2 => rw [e] at post; exact post.elim
  | bad => rw [e] at post; exact post.elim
theorem e_prop {k np : Nat} {e : Expr} {f : SE} {F : SF} {x : Str} {pos : Pos} {okc : Nat → Bool} {g : Addr} {fd : FuncData} {ps : List Str} (hn : np = 1) (c0 : Nat) (h0 : okc c0 = true)
    (hc : ∀ c, okc c = true → Cls X.K (w.cl c) ∧ ∃ p, PropOf X.K (w.cl c) x p g) (G : FnOk X.prog X.w X.K X.mg X.base CX0 k g fd ps (spF w np F)) (hr : Room (k + 1) X.A) (hb : Binds X.K fd ps [])
    (hab : attributeBase e x X.env (eval e X.env) = eval e X.env) (he : PE X e (rdE w W f)) : PE X (.Attribute e x pos) (rdE w W (sProp F okc f)) := by
  refine PE.imp (PE.any (P := fun c => okc c = true) (t := fun c => tProp (w.cl c) (spF w np F) [] E0 (rdE w W f)) fun c oc => ?_) fun σ H Q ⟨gh, ρ, S, rel, h⟩ => ?_
  · obtain ⟨cl, p, hp⟩ := hc c oc
    exact pe_prop he cl hp G hr hb .nil pass0 hab
  · cases ev : f ρ S with
    | exc y S1 =>
      unfold sProp at h
      rw [ev] at h
      refine ⟨c0, h0, gh, ρ, S, rel, ?_⟩
      rw [ev]
      exact h
    | bad => unfold sProp at h; rw [ev] at h; exact h.elim
    | ok r S1 =>
      obtain ⟨d, fl⟩ := r
      cases d with
      | ins c fs =>
        cases oc : okc c with
        | false => unfold sProp at h; rw [ev] at h; simp [R.bind, R.go, oc] at h; exact h.elim
        | true =>
          refine ⟨c, oc, ?_⟩
          refine rdE_imp (bindE rel h goodE) fun v H1 ⟨r1, S2, m1, s1, rel1, res1, e1, h1⟩ => ?_
          rw [ev] at e1
          cases e1
          obtain ⟨a, dx, gs, rfl, hi, rn⟩ := (Read.look res1.arg.read).ins
          refine ⟨a, dx, gs, rfl, hi, ?_⟩
          dsimp only at h1
          rw [if_pos oc] at h1
          exact ent_one (r := (.ins c fs, fl)) rel1 res1.arg hn h1
      | _ => unfold sProp at h; rw [ev] at h; exact h.elim
end
end DL

set_option maxRecDepth 100000
set_option maxHeartbeats 2000000
/-! The value layer: own len, +, *; isinstance. -/
namespace DL
open PySem L2
open PySem.W PyProof.Rows in
/-- x op y, two instances whose classes are apart -/
theorem own_bin2 {prog : Program} {pw : World} {A : Around} {E : Value → Shared → Prop} {s : Shared} {K : Frag} {x y C C' L f f' : Addr} {h₀ : Heap} {m : Str → Option Value} {ox oy : Obj} {od od' : Option Obj} {op : Operator} {rc rc' : Option Value} {Q : Value → Shared → Prop}
    (F : Fr h₀ L s.heap m) (X₀ : K.In h₀) (I : InstAt s.heap x ox C od) (J : InstAt s.heap y oy C' od') (hne : C ≠ C') (hc : selfFirst K C = true) (hc' : selfFirst K C' = true)
    (hs : findIn K (.ref C) (PySem.dunder op.info.2) = some (some (.ref f))) (hs' : findIn K (.ref C') (PySem.dunder op.info.2) = some (some (.ref f'))) (hf : isFn K (.ref f) = true)
    (hr : findIn K (.ref C) (dunderR op.info.2) = some rc) (hr' : findIn K (.ref C') (dunderR op.info.2) = some rc') (hp : rc = none ∨ ∃ g : Addr, rc = some (.ref g)) (hp' : rc' = none ∨ ∃ g : Addr, rc' = some (.ref g))
    (hsub : subIn K (.ref C') (.ref C) = some false) (h : wpAny (model prog pw) A (call (.ref f) [.ref x, .ref y]) (PySem.W.CmpBack Q) E s) : wpAny (model prog pw) A (binaryOp op (.ref x) (.ref y)) Q E s := by
  have X := X₀.keeps F.keep
  obtain ⟨cd, rest, hcd, hm⟩ := ksp_first hc
  obtain ⟨cd', rest', hcd', hm'⟩ := ksp_first hc'
  have one := ksp_try X I hs hf h
  rcases hi : op.info with ⟨sym, nm'⟩
  rw [hi] at hs hs' hr hr' one
  dsimp only at hs hs' hr hr' one
  obtain ⟨hh, g, d, tt, os⟩ := s
  have ty1 : Looks (model prog pw) hh (typeOf (.ref x)) (.ref C) := I.type
  have ty2 : Looks (model prog pw) hh (typeOf (.ref y)) (.ref C') := J.type
  have fl1 : Looks (model prog pw) hh (fillsNumberSlot (.ref C) nm') true := fills_K X hcd hm hs
  have fl2 : Looks (model prog pw) hh (fillsNumberSlot (.ref C') nm') true := fills_K X hcd' hm' hs'
  have sb : Looks (model prog pw) hh (isSubtype (.ref C') (.ref C)) false := looks_subIn X hsub
  have py1 : Looks (model prog pw) hh (numberSlotInPython (.ref C) nm') true := ksp_inPy X hs hr hp
  have py2 : Looks (model prog pw) hh (numberSlotInPython (.ref C') nm') true := ksp_inPy X hs' hr' hp'
  have ne : (Value.ref C == Value.ref C') = false := Bool.eq_false_iff.mpr fun q => by cases beq_iff_eq.mp q; exact hne rfl
  simp only [binaryOp, hi]
  refine wpAny_holding (wpAny_bind ?_)
  unfold binaryOp1
  refine wpAny_bind (ty1.at (wpAny_bind (ty2.at (wpAny_bind (fl1.at ?_)))))
  simp only [ne, Bool.false_eq_true, if_false]
  ksp_lk
  refine wpAny_mono one (fun r s' q => ?_) fun _ _ e => e
  obtain ⟨v, rfl, hq⟩ := q
  ksp_lk
  exact hq
section
variable {w : Wd} {W : WX} {X : Cx}
/-- a def runs, called by the machinery of an operator -/
theorem run_in {A : Around} {k : Nat} {f : Addr} {fd : FuncData} {ps : List Str} {sp : Sp} {pins : List (Addr × Obj)} {σ : L2.St} {H : Hp} {s : Shared} {Q : VK} {us : List Value} {vs : List V} (F : FnOk X.prog X.w X.K X.mg X.base CX0 k f fd ps sp) (hr : Room k A) (e0 : Env0 X.prog X.w X.K X.mg X.base A X.stack s H)
    (hb : Binds X.K fd ps []) (I : Inv X pins σ H s) (r : Vals vs us) (h : sp vs H Q E0) : wpAny (model X.prog X.w) A (call (.ref f) us) (EP X pins σ Q) X.xe s := by
  have hl : (us ++ []).length = ps.length := by rw [List.append_nil, ← r.length]; exact F.len _ _ _ _ h
  refine wpAny_call (codeAny_mono (F.run A X.stack s H ⟨us, []⟩ (us ++ []) vs Q E0 hr e0 (hb s us I.kIn hl) (by rw [List.append_nil]; exact r) h) fun r s' hq => ?_)
  cases r with
  | error e => exact False.elim hq
  | ok fl =>
    cases fl with
    | ret u => exact I.after hq
    | next => exact False.elim hq
    | brk => exact False.elim hq
    | cont => exact False.elim hq
theorem ins_look {pins : List (Addr × Obj)} {σ : L2.St} {H : Hp} {s : Shared} {a C dx : Addr} {fs : List (Str × V)} (I : Inv X pins σ H s) (e : H a = some (.ins C dx fs)) : ∃ od, PySem.W.InstAt s.heap a (PySem.W.instObj C dx) C (some od) := by
  obtain ⟨mA, O, _⟩ := ins_get I.hok e
  obtain ⟨od, J, _⟩ := O.look
  exact ⟨od, J⟩
/-! ### len -/
def rLenO (C : Addr) (sp : Sp) : List V → Hp → VK → Prop := fun xs H Q => ∃ a dx fs, xs = [.ref a] ∧ H a = some (.ins C dx fs) ∧ sp [.ref a] H (fun v H' => ∃ n : Int, v = .int n ∧ 0 ≤ n ∧ n < 2 ^ 63 ∧ Q (.int n) H') E0
theorem call_lenO {k : Nat} {C g : Addr} {fd : FuncData} {ps : List Str} {sp : Sp} (hs : PySem.W.findIn X.K (.ref C) "__len__" = some (some (.ref g))) (hf : PySem.W.isFn X.K (.ref g) = true) (F : FnOk X.prog X.w X.K X.mg X.base CX0 k g fd ps sp) (hr : Room (k + 1) X.A) (hb : Binds X.K fd ps []) :
    CallR X (.builtin "len") (rLenO C sp) := by
  intro pins s σ H xs us Q I r h
  obtain ⟨a, dx, fs, rfl, hi, q⟩ := h
  have ev := vals1 r
  obtain ⟨u, rfl, ru⟩ := ev
  obtain rfl : u = Value.ref a := ru
  obtain ⟨od, J⟩ := ins_look I hi
  obtain ⟨m, fr⟩ := I.fr
  refine PySem.W.len_K fr I.ok.mod.kin J hs hf (wpAny_mono (run_in (vs := [.ref a]) F hr.in1 I.env0.in1 hb I (.cons (show RelV (.ref a) (.ref a) from rfl) .nil) q) (fun v s' z => ?_) fun _ _ e => e)
  obtain ⟨z', H', I', rz, n, en, h0, h1, qz⟩ := z
  subst en
  obtain ⟨t, e⟩ := (show ∃ t, v = Value.int n t from rz)
  cases e
  exact ⟨⟨h0, h1⟩, .int n, H', I'.tok _, ⟨_, rfl⟩, qz⟩
/-- len(e), e a row, a text or an instance -/
def sLenO (F : SF) (okc : Nat → Bool) (fs : SA) : SE := fun ρ S => (fs ρ S).bind fun rs S1 => match rs with
  | [r] => (match view S1 r.1 with
    | .ins c gs => if okc c = true then (match F [(r.1, lend r.2)] S1 with
      | .ok (.int n, _) S2 => if 0 ≤ n ∧ n < 2 ^ 63 then .ok (.int n, .sh) S2 else .bad
      | _ => .bad) else .bad
    | _ => opt (oLen r S1) S1)
  | _ => .bad
theorem CallR.any {f : Value} {I : Type} {P : I → Prop} {r : I → List V → Hp → VK → Prop} (h : ∀ i, P i → CallR X f (r i)) : CallR X f (fun xs H Q => ∃ i, P i ∧ r i xs H Q) :=
  fun pins s σ H xs us Q J v ⟨i, p, q⟩ => h i p pins s σ H xs us Q J v q
/-- the one argument of a promise that has come -/
theorem post_int {np : Nat} {F : SF} {g : G} {ρ : Loc} {S : Store} {σ : L2.St} {H : Hp} {r : RV} {v : V} {Q : VK} {E : XK} (rel : Rel w g ρ S σ H) (h : Arg w g.m g.Z H r v) (hn : np = 1) (post : PostE w W ρ σ Q g H (match F [(r.1, lend r.2)] S with
      | .ok (.int n, _) S2 => if 0 ≤ n ∧ n < 2 ^ 63 then .ok (.int n, .sh) S2 else .bad
      | _ => .bad)) : spF w np F [v] H (fun v H' => ∃ n : Int, v = .int n ∧ 0 ≤ n ∧ n < 2 ^ 63 ∧ Q (.int n) H') E := by
  refine ent_one (W := W) (ρ := ρ) (σ := σ) rel h hn ?_
  cases e : F [(r.1, lend r.2)] S with
  | exc x S2 => rw [e] at post; exact post.elim
  | bad => rw [e] at post; exact post.elim
  | ok q S2 =>
    rw [e] at post
    obtain ⟨d, fl⟩ := q
    cases d with
    | int n =>
      dsimp only at post
      split at post
      · rename_i c
        intro v' H' k
        obtain ⟨m', s', rel', res⟩ := k
        have l : Look w m' g.Z H' (.int n) v' := (Res.arg res).read.look
        refine ⟨n, l.int, c.1, c.2, post _ _ ⟨m', s', rel', .int n⟩⟩
      · exact post.elim
    | _ => exact post.elim
theorem e_lenO {k np : Nat} {g : Addr} {fd : FuncData} {ps : List Str} {F : SF} {okc : Nat → Bool} {e : Expr} {es : List Expr} {fs : SA} {p pos : Pos} (hK : X.K = w.K) (hn : np = 1) (hc : ∀ c, okc c = true → PySem.W.findIn X.K (.ref (w.cl c)) "__len__" = some (some (.ref g)))
    (hf : PySem.W.isFn X.K (.ref g) = true) (G : FnOk X.prog X.w X.K X.mg X.base CX0 k g fd ps (spF w np F)) (hr : Room (k + 1) X.A) (hb : Binds X.K fd ps []) (b : BN X "len" (.builtin "len"))
    (he : starEach (e :: es) X.env = (false, eval e X.env) :: starEach es X.env) (hpl : (backTo pos (starEach es X.env)).any (·.1) = false) (ha : PA X (e :: es) (rdA w W fs)) : PE X (.Call (.Name "len" p) (e :: es) [] pos) (rdE w W (sLenO F okc fs)) := by
  have cr : CallR X (.builtin "len") (fun xs H Q => (fun xs H Q => ∃ x n, xs = [x] ∧ LenV X.K x H n ∧ Q (.int n) H) xs H Q ∨ (fun xs H Q => ∃ c, okc c = true ∧ rLenO (w.cl c) (spF w np F) xs H Q) xs H Q) :=
    CallR.or call_len (CallR.any fun c oc => call_lenO (hc c oc) hf G hr hb)
  refine PE.imp (pe_callB cr b.gl b.mg b.bt ha b.n1 b.n2 he hpl) fun σ H Q ⟨gh, ρ, S, rel, h⟩ => ?_
  refine rdA_imp (bindA rel h goodE) fun vs H1 ⟨rs, S1, m1, s1, rel1, as, _, h1⟩ => ?_
  split at h1
  rotate_left
  · exact h1.elim
  rename_i r _
  cases as with
  | cons a t =>
    cases t
    split at h1
    · rename_i c gs ed
      split at h1
      rotate_left
      · exact h1.elim
      rename_i oc
      have l := look_view rel1 a
      rw [ed] at l
      obtain ⟨x, dx, fs', rfl, hi, rn⟩ := l.ins
      exact .inr ⟨c, oc, x, dx, fs', rfl, hi, post_int rel1 a hn h1⟩
    · obtain ⟨q, e, h3⟩ := post_opt h1
      exact .inl (ok_len hK (gh.at m1) ρ S1 σ H1 r _ q Q rel1 a e h3)
/-! ### +, * -/
theorem back_of {z : V} {v : Value} {P : Value → Shared → Prop} {s : Shared} (r : RelV z v) (h : P v s) : PySem.W.CmpBack P v s := by
  cases v with
  | notImplemented => cases z <;> first | (cases r; done) | (obtain ⟨t, e⟩ := r; cases e)
  | _ => exact h
/-- what an own operator asks of a class -/
structure Bin1 (K : PySem.W.Frag) (C : Addr) (nm : String) (g : Addr) : Prop where
  self : PySem.W.selfFirst K C = true
  at_ : PySem.W.findIn K (.ref C) (PySem.dunder nm) = some (some (.ref g))
  back : ∃ rc, PySem.W.findIn K (.ref C) (dunderR nm) = some rc ∧ (rc = none ∨ ∃ g : Addr, rc = some (.ref g))
def rOwn2 (C C' : Addr) (sp : Sp) : R2 := fun x y H Q => ∃ a dx fs b dy gs, x = .ref a ∧ y = .ref b ∧ H a = some (.ins C dx fs) ∧ H b = some (.ins C' dy gs) ∧ sp [x, y] H Q E0
theorem op_own2 {op : Operator} {k : Nat} {C C' g : Addr} {fd : FuncData} {ps : List Str} {sp : Sp} (b1 : Bin1 X.K C op.info.2 g) (b2 : Bin1 X.K C' op.info.2 g) (hf : PySem.W.isFn X.K (.ref g) = true) (hs : C ≠ C' → PySem.W.subIn X.K (.ref C') (.ref C) = some false)
    (F : FnOk X.prog X.w X.K X.mg X.base CX0 k g fd ps sp) (hr : Room k X.A) (hb : Binds X.K fd ps []) : OpR X (binaryOp op) (rOwn2 C C' sp) := by
  intro pins s σ H x y v u Q I rx ry h
  obtain ⟨a, dx, fs, b, dy, gs, rfl, rfl, ha, hb', q⟩ := h
  cases (show v = Value.ref a from rx)
  cases (show u = Value.ref b from ry)
  obtain ⟨od, J⟩ := ins_look I ha
  obtain ⟨od', J'⟩ := ins_look I hb'
  obtain ⟨m, fr⟩ := I.fr
  have go : wpAny (model X.prog X.w) X.A (call (.ref g) [.ref a, .ref b]) (PySem.W.CmpBack (EP X pins σ Q)) X.xe s :=
    wpAny_mono (run_in (vs := [.ref a, .ref b]) F hr I.env0 hb I (.cons (show RelV (.ref a) (.ref a) from rfl) (.cons (show RelV (.ref b) (.ref b) from rfl) .nil)) q) (fun v s' ⟨z, H', I', rz, qz⟩ => back_of rz ⟨z, H', I', rz, qz⟩) fun _ _ e => e
  by_cases hC : C = C'
  · subst hC
    exact PySem.W.binop_K fr I.ok.mod.kin J J'.type b1.self b1.at_ hf go
  · obtain ⟨rc, e1, p1⟩ := b1.back
    obtain ⟨rc', e2, p2⟩ := b2.back
    exact own_bin2 fr I.ok.mod.kin J J' hC b1.self b2.self b1.at_ b2.at_ hf e1 e2 p1 p2 (hs hC) go
def rOwnI (C : Addr) (sp : Sp) : R2 := fun x y H Q => ∃ a dx fs i, x = .ref a ∧ y = .int i ∧ H a = some (.ins C dx fs) ∧ sp [x, y] H Q E0
theorem op_ownI {op : Operator} {k : Nat} {C g : Addr} {fd : FuncData} {ps : List Str} {sp : Sp} {fo ro : Option Value} (b1 : Bin1 X.K C op.info.2 g) (hf : PySem.W.isFn X.K (.ref g) = true) (h1 : PySem.W.findIn X.K (.type "int") (PySem.dunder op.info.2) = some fo) (h2 : PySem.W.findIn X.K (.type "int") (dunderR op.info.2) = some ro)
    (hs : PySem.W.subIn X.K (.type "int") (.ref C) = some false) (F : FnOk X.prog X.w X.K X.mg X.base CX0 k g fd ps sp) (hr : Room k X.A) (hb : Binds X.K fd ps []) : OpR X (binaryOp op) (rOwnI C sp) := by
  intro pins s σ H x y v u Q I rx ry h
  obtain ⟨a, dx, fs, i, rfl, rfl, ha, q⟩ := h
  cases (show v = Value.ref a from rx)
  obtain ⟨t, rfl⟩ := (show ∃ t, u = Value.int i t from ry)
  obtain ⟨od, J⟩ := ins_look I ha
  obtain ⟨m, fr⟩ := I.fr
  obtain ⟨rc, e1, p1⟩ := b1.back
  have go : wpAny (model X.prog X.w) X.A (call (.ref g) [.ref a, .int i t]) (PySem.W.CmpBack (EP X pins σ Q)) X.xe s :=
    wpAny_mono (run_in (vs := [.ref a, .int i]) F hr I.env0 hb I (.cons (show RelV (.ref a) (.ref a) from rfl) (.cons (show RelV (.int i) (.int i t) from ⟨t, rfl⟩) .nil)) q) (fun v s' ⟨z, H', I', rz, qz⟩ => back_of rz ⟨z, H', I', rz, qz⟩) fun _ _ e => e
  exact PySem.W.ksp_binT fr I.ok.mod.kin J rfl b1.self b1.at_ hf e1 p1 h1 h2 hs go
theorem OpR.any {f : Value → Value → Sem Value} {I : Type} {P : I → Prop} {r : I → R2} (h : ∀ i, P i → OpR X f (r i)) : OpR X f (fun x y H Q => ∃ i, P i ∧ r i x y H Q) :=
  fun pins s σ H x y v u Q J rx ry ⟨i, p, q⟩ => h i p pins s σ H x y v u Q J rx ry q
/-- a op b by the own def F of the left -/
def sOwn2 (F : SF) (okc : Nat → Bool) (f u : SE) : SE := fun ρ S => (f ρ S).bind fun a S1 => (u ρ S1).bind fun b S2 => match a.1, b.1 with
  | .ins c _, .ins c' _ => if okc c = true ∧ okc c' = true then (match F [(a.1, lend a.2), (b.1, lend b.2)] S2 with
      | .ok r S3 => .ok r S3
      | _ => .bad) else .bad
  | .ins c _, .int _ => if okc c = true then (match F [(a.1, lend a.2), (b.1, lend b.2)] S2 with
      | .ok r S3 => .ok r S3
      | _ => .bad) else .bad
  | _, _ => .bad
theorem ent_two {np : Nat} {F : SF} {g : G} {ρ : Loc} {S : Store} {σ : L2.St} {H : Hp} {r q : RV} {v u : V} {Q : VK} {E : XK} (rel : Rel w g ρ S σ H) (h : Arg w g.m g.Z H r v) (h' : Arg w g.m g.Z H q u) (hn : np = 2)
    (post : PostE w W ρ σ Q g H (match F [(r.1, lend r.2), (q.1, lend q.2)] S with
      | .ok q S2 => .ok q S2
      | _ => .bad)) : spF w np F [v, u] H Q E := by
  have a1 : ∀ {r : RV} {v : V}, Arg w g.m g.Z H r v → Arg w g.call.m g.call.Z H (r.1, lend r.2) v := fun {r v} h => by
    rw [G.call_Z]
    obtain ⟨d, fl⟩ := r
    cases fl <;> exact h
  refine ⟨g.call, [(r.1, lend r.2), (q.1, lend q.2)], S, rel.ent, .cons (a1 h) (.cons (a1 h') .nil), hn.symm, ?_⟩
  cases e : F [(r.1, lend r.2), (q.1, lend q.2)] S with
  | ok q S2 => rw [e] at post; exact fun v' H' k => post v' H' (RtOk.rok rel k)
  | exc x S2 => rw [e] at post; exact post.elim
  | bad => rw [e] at post; exact post.elim
/-- what an own operator asks of the classes -/
structure BinC (K : PySem.W.Frag) (w : Wd) (okc : Nat → Bool) (nm : String) (g : Addr) : Prop where
  one : ∀ c, okc c = true → Bin1 K (w.cl c) nm g
  sub : ∀ c c', okc c = true → okc c' = true → w.cl c ≠ w.cl c' → PySem.W.subIn K (.ref (w.cl c')) (.ref (w.cl c)) = some false
  fn : PySem.W.isFn K (.ref g) = true
  i1 : ∃ fo, PySem.W.findIn K (.type "int") (PySem.dunder nm) = some fo
  i2 : ∃ ro, PySem.W.findIn K (.type "int") (dunderR nm) = some ro
  isub : ∀ c, okc c = true → PySem.W.subIn K (.type "int") (.ref (w.cl c)) = some false
theorem e_own2 {op : Operator} {k np : Nat} {g : Addr} {fd : FuncData} {ps : List Str} {F : SF} {okc : Nat → Bool} {a b : Expr} {f u : SE} {pos : Pos} (hn : np = 2) (bc : BinC X.K w okc op.info.2 g) (G : FnOk X.prog X.w X.K X.mg X.base CX0 k g fd ps (spF w np F)) (hr : Room k X.A) (hb : Binds X.K fd ps [])
    (ha : PE X a (rdE w W f)) (hb' : PE X b (rdE w W u)) : PE X (.BinOp a op b pos) (rdE w W (sOwn2 F okc f u)) := by
  obtain ⟨fo, hi1⟩ := bc.i1
  obtain ⟨ro, hi2⟩ := bc.i2
  have o1 : OpR X (binaryOp op) (fun x y H Q => ∃ p : Nat × Nat, (okc p.1 = true ∧ okc p.2 = true) ∧ rOwn2 (w.cl p.1) (w.cl p.2) (spF w np F) x y H Q) :=
    OpR.any fun p hp => op_own2 (bc.one _ hp.1) (bc.one _ hp.2) bc.fn (bc.sub _ _ hp.1 hp.2) G hr hb
  have o2 : OpR X (binaryOp op) (fun x y H Q => ∃ c : Nat, okc c = true ∧ rOwnI (w.cl c) (spF w np F) x y H Q) :=
    OpR.any fun c hc => op_ownI (bc.one _ hc) bc.fn hi1 hi2 (bc.isub _ hc) G hr hb
  refine PE.imp (pe_op (OpR.or o1 o2) ha hb') fun σ H Q ⟨gh, ρ, S, rel, h⟩ => ?_
  refine rdE_imp (bindE rel h goodE) fun x H1 ⟨r1, S1, m1, s1, rel1, res1, _, h1⟩ => ?_
  refine rdE_imp (bindE rel1 h1 goodE) fun y H2 ⟨r2, S2, m2, s2, rel2, res2, _, h2⟩ => ?_
  have a1 := s2.arg res1.arg
  obtain ⟨d1, f1⟩ := r1
  obtain ⟨d2, f2⟩ := r2
  cases d1 with
  | ins c fs =>
    obtain ⟨p, dx, gs, rfl, hi, rn⟩ := (Read.look a1.read).ins
    cases d2 with
    | ins c' fs' =>
      dsimp only at h2
      split at h2
      rotate_left
      · exact h2.elim
      rename_i oc
      obtain ⟨p', dx', gs', rfl, hi', rn'⟩ := (Read.look res2.arg.read).ins
      exact .inl ⟨(c, c'), oc, p, dx, gs, p', dx', gs', rfl, rfl, hi, hi', ent_two (r := (.ins c fs, f1)) (q := (.ins c' fs', f2)) rel2 a1 res2.arg hn h2⟩
    | int i =>
      dsimp only at h2
      split at h2
      rotate_left
      · exact h2.elim
      rename_i oc
      have hy : y = .int i := Look.int (Read.look res2.arg.read)
      exact .inr ⟨c, oc, p, dx, gs, i, rfl, hy, hi, ent_two (r := (.ins c fs, f1)) (q := (.int i, f2)) rel2 a1 res2.arg hn h2⟩
    | _ => exact h2.elim
  | _ => cases d2 <;> exact h2.elim
end
end DL

set_option maxRecDepth 100000
set_option maxHeartbeats 2000000
/-! The value layer: repr, behind no other repr; isinstance; global constants; is. -/
namespace DL
open PySem L2
/-- the String of a text, if it is one -/
noncomputable def strOf (x : Str) : Option String := open Classical in if h : ∃ y : String, s2 y = x then some h.choose else none
theorem strOf_s2 (y : String) : strOf (s2 y) = some y := by
  unfold strOf
  have h : ∃ z : String, s2 z = s2 y := ⟨y, rfl⟩
  rw [dif_pos h, s2_inj h.choose_spec]
theorem of_strOf {x : Str} {y : String} (h : strOf x = some y) : s2 y = x := by
  unfold strOf at h
  split at h
  · rename_i e; cases h; exact e.choose_spec
  · cases h
section
variable {w : Wd} {W : WX} {X : Cx}
def rRepr (K : PySem.W.Frag) : List V → Hp → VK → Prop := fun xs H Q => ∃ v d, xs = [v] ∧ Dp K H v d ∧ d.canLay0 = true ∧ d.showable = true ∧ d.shown.length ≤ sizeLine ∧ d.depth ≤ 100 ∧ Q (.str d.shown) H
theorem call_repr (hg : X.A.guards = some []) (hu : X.A.units + 200 < cLine) : CallR X (.builtin "repr") (rRepr X.K) := by
  intro pins s σ H xs us Q I r h
  obtain ⟨v, d, rfl, hd, cl, hs, hz, hdp, q⟩ := h
  obtain ⟨u, rfl, ru⟩ := vals1 r
  obtain ⟨as, rd⟩ := Dp.reads I d v u hd ru
  have flat : ∀ tk, EP X pins σ Q (.str d.shown tk) { s with toks := s.toks + 1 } := fun tk => ⟨.str d.shown, H, I.tok _, ⟨_, rfl⟩, q⟩
  cases rd with
  | none => exact PySem.P.repr_of_none (flat _)
  | bool b => exact PySem.P.repr_of_bool (flat _)
  | int i t => exact PySem.P.repr_of_int (of_decide_eq_true hs) (flat _)
  | str x t => exact PySem.P.repr_of_str (flat _) hz
  | list h1 h2 h3 h4 => exact repr_of_reads' (h₀ := s.heap) (.list h1 h2 h3 h4) hs (PyData.noDict_hsm (PyData.hasDict_of_canLay _ cl)) hg (by omega) (fun _ _ e => e) (fun h' u' tk hk => ⟨.str _, H, I.kept hk, ⟨_, rfl⟩, q⟩) hz
  | tuple h1 h2 h3 h4 => exact repr_of_reads' (h₀ := s.heap) (.tuple h1 h2 h3 h4) hs (PyData.noDict_hsm (PyData.hasDict_of_canLay _ cl)) hg (by omega) (fun _ _ e => e) (fun h' u' tk hk => ⟨.str _, H, I.kept hk, ⟨_, rfl⟩, q⟩) hz
  | dict h1 h2 h3 h4 h5 => exact repr_of_reads' (h₀ := s.heap) (.dict h1 h2 h3 h4 h5) hs (PyData.noDict_hsm (PyData.hasDict_of_canLay _ cl)) hg (by omega) (fun _ _ e => e) (fun h' u' tk hk => ⟨.str _, H, I.kept hk, ⟨_, rfl⟩, q⟩) hz
open Classical in
noncomputable def oRepr (a : RV) (S : Store) : Option RV := if plain (view S a.1) = true ∧ (py (view S a.1)).showable = true ∧ (py (view S a.1)).shown.length ≤ sizeLine ∧ dep (view S a.1) ≤ 100 then (strOf (py (view S a.1)).shown).map fun x => (.str x, .sh) else none
theorem ok_repr (hK : X.K = w.K) : OkOp1 w (fun x H Q => rRepr X.K [x] H Q) oRepr := by
  intro g ρ S σ H a x q Q rel ha e k
  unfold oRepr at e
  split at e
  · rename_i c
    obtain ⟨y, ey, rfl⟩ := Option.map_eq_some_iff.mp e
    refine ⟨x, _, rfl, hK ▸ (look_view rel ha).dp c.1, py_lay _, c.2.1, c.2.2.1, by rw [py_dep]; exact c.2.2.2, ?_⟩
    rw [← of_strOf ey]
    exact k _ _ (.same rel (.str y))
  · cases e
/-! ### defs that must not run behind a repr -/
structure FnG (P : Program) (pw : World) (K : PySem.W.Frag) (mg : Str → Option Value) (base : Heap) (k : Nat) (f : Addr) (fd : FuncData) (ps : List Str) (sp : Sp) : Prop where
  len : ∀ vs H Q E, sp vs H Q E → vs.length = ps.length
  run : ∀ (A : Around) (outer : List Env) (s : Shared) (H : Hp) (args : PySem.Args) (us : List Value) (vs : List V) (Q : VK) (E : XK), A.guards = some [] → Room k A → Env0 P pw K mg base A outer s H → BindsTo s fd args (ps.zip us) → Vals vs us → sp vs H Q E →
    codeAny (model P pw) A (.call (.ref f) args) (CR CX0 outer P pw H s Q E) s
/-- the body of a def that no repr waits for -/
theorem fnG_ok {P : Program} {pw : World} {K : PySem.W.Frag} {mg : Str → Option Value} {base : Heap} {x qual : Str} {st : Stmt} {f : Addr} {fd : FuncData} {N ps : List Str} {k : Nat} {b : SS} (F : Fun K x qual st f fd) (S : FnScope N ps (defScope st))
    (hb : ∀ (cdv : Value) (A : Around) (outer : List Env) (s : Shared) (H : Hp) (E : XK), A.guards = some [] → Room k (A.deeper (PyProof.Rows.envOfC qual (defScope st) s.heap.objs.size f cdv)) → PSs (cxOf CX0 P pw K mg base N qual (defScope st) f cdv A outer s H E).nox (defBody st) (rdS w WF b)) :
    FnG P pw K mg base (k + 1) f fd ps (spF w ps.length (bodyF N.length b)) := by
  obtain ⟨oc, od, kV, doc, pm, an, cdv, ct, osl, rfl, lk, hcd⟩ := F.ex
  refine ⟨fun vs H Q E ⟨g, rs, S, _, a, hl, _⟩ => a.length ▸ hl, ?_⟩
  intro A outer s H args us vs Q E hg hr e0 bind rel ⟨g, rs, S0, en, a, hl, post⟩
  have many : vs.length = ps.length := a.length ▸ hl
  have inK : K.In s.heap := e0.mod.kin.keeps fun b o q => (e0.bs b o q).1
  have room : s.heap.NoLimit := e0.mod.nolimit.keeps fun b o q => (e0.bs b o q).1
  refine codeAny_call_function hr.depth (inK _ _ lk) rfl S.co S.gen rfl (PySem.W.codeRec_of inK hcd) (bind _ _ _ _ ?_)
  refine wpAny_newFunctionEnv_cells S.kind ?_ ?_
  · intro ⟨n, v⟩ hy
    exact (S.par n (List.of_mem_zip hy).1).imp id fun q => ⟨q, PySem.W.cellsFrom_some _ _ _ (.inl q)⟩
  · intro env he s1 new
    subst he
    refine ⟨room.keeps new.toInCall.keep, codeAny_func ?_⟩
    have body := (hb cdv A outer s H E hg (hr.deeper _)).nox
    have inv : Inv (cxOf CX0 P pw K mg base N qual (defScope st) f cdv A outer s H E) [] (L2.start N vs) H s1 := inv_start S hr.hd e0 many rel new
    have said : rdS w WF b { nx := fun _ H' => Q .non H', rt := Q } (L2.start N vs) H := by
      refine ⟨g, _, S0, en.rel a, ?_⟩
      unfold bodyF at post
      cases ev : b (entry N.length rs) S0 with
      | nx ρ S' => rw [ev] at post; exact fun σ' H' ⟨g', s', r'⟩ => post .non H' ⟨g', s', r'.sto, r'.nd, r'.sep, r'.trk, r'.sez, .non⟩
      | rt r S' => rw [ev] at post; exact post
      | bk ρ S' => rw [ev] at post; exact post.elim
      | ct ρ S' => rw [ev] at post; exact post.elim
      | ex d ρ S' => rw [ev] at post; exact post.elim
      | bad => rw [ev] at post; exact post.elim
    refine wpAny_mono (body.run [] s1 (L2.start N vs) H _ inv said) (fun fl s' hs => ?_) fun _ _ q => q
    have back : ∀ {σ' : L2.St} {H' : Hp} {v : V} {u : Value}, Inv (cxOf CX0 P pw K mg base N qual (defScope st) f cdv A outer s H E) [] σ' H' s' → RelV v u → Q v H' → CE outer P pw H s Q u s' :=
      fun {_ H' v _} J rv q => ⟨v, H', J.os, J.bare, J.base, J.hok, rv, q⟩
    cases fl with
    | ret u => obtain ⟨v, σ', H', J, rv, q⟩ := hs; exact back J rv q
    | next => obtain ⟨σ', H', J, q⟩ := hs; exact back (v := V.non) (u := Value.none) J rfl q
    | brk => obtain ⟨_, _, _, q⟩ := hs; exact q.elim
    | cont => obtain ⟨_, _, _, q⟩ := hs; exact q.elim
theorem e_callG {k np : Nat} {f : Addr} {fd : FuncData} {ps : List Str} {F : SF} {x : Str} {p pos : Pos} {e : Expr} {es : List Expr} {fs : SA} (hgu : X.A.guards = some [])
    (G : FnG X.prog X.w X.K X.mg X.base k f fd ps (spF w np F)) (hr : Room k X.A) (hg : Gl X x) (hm : X.mg x = some (.ref f)) (hk : PySem.W.keepIn X.K (.ref f) = true) (hb : Binds X.K fd ps [])
    (hdb : (x == ("__debug__" : Str)) = false) (he : starEach (e :: es) X.env = (false, eval e X.env) :: starEach es X.env) (hpl : (backTo pos (starEach es X.env)).any (·.1) = false) (ha : PA X (e :: es) (rdA w W fs)) :
    PE X (.Call (.Name x p) (e :: es) [] pos) (rdE w W (sCall np F [] fs)) := by
  refine PE.imp (t := tCall (spF w np F) [] E0 (rdA w W fs)) ?_ fun _ _ _ h => rd_call def_nil h
  refine ⟨fun pins s σ H Q I h => wpAny_Call_Name_kw (ld_glob I hg hm ?_ hdb)⟩
  refine PySem.W.callWith_K (h₀ := X.base) I.ok.mod.kin hk (thn (ha.run pos pins s σ H _ I h) fun us s1 ⟨vs, H1, I1, r, q⟩ => ⟨I1.kIn, ?_⟩) he hpl
  have q' : spF w np F vs H1 Q E0 := by simpa using q
  have hl : (us ++ []).length = ps.length := by rw [List.append_nil, ← r.length]; exact G.len _ _ _ _ q'
  refine wpAny_call (codeAny_mono (G.run X.A X.stack s1 H1 ⟨us, []⟩ (us ++ []) vs Q E0 hgu hr I1.env0 (hb s1 us I1.kIn hl) (by rw [List.append_nil]; exact r) q') fun r s' hq => ?_)
  cases r with
  | error e => exact False.elim hq
  | ok fl =>
    cases fl with
    | ret u => exact I1.after hq
    | next => exact False.elim hq
    | brk => exact False.elim hq
    | cont => exact False.elim hq
/-! ### global constants -/
theorem e_glob {x : Str} {pos : Pos} {d : D} {v : V} (hg : Gl X x) (hm : ∃ u, X.mg x = some u ∧ RelV v u) (hdb : (x == ("__debug__" : Str)) = false) (r : ∀ m Z H, Rep w m Z H d v) : PE X (.Name x pos) (rdE w W (sCst d)) := by
  obtain ⟨u, h1, h2⟩ := hm
  exact e_cst (pe_glob hg h1 h2 hdb) r
/-! ### is, is not of truths and None -/
def rIsBN (neg : Bool) : R2 := fun x y H Q => ∃ b : Bool, y = .bl b ∧ ((x = .non ∧ Q (.bl neg) H) ∨ ∃ a : Bool, x = .bl a ∧ Q (.bl (if neg then !decide (a = b) else decide (a = b))) H)
theorem op_isBN : OpR X (compareOp .Is) (rIsBN false) := by
  intro pins s σ H x y v u Q I rx ry h
  obtain ⟨b, rfl, h⟩ := h
  rcases h with ⟨rfl, q⟩ | ⟨a, rfl, q⟩
  · cases (show v = Value.none from rx)
    cases (show u = Value.bool b from ry)
    exact wpAny_is_other rfl (fun z => nomatch z) ⟨.bl false, H, I, rfl, q⟩
  · exact op_isBl pins s σ H _ _ v u Q I rx ry ⟨a, b, rfl, rfl, q⟩
theorem op_notBN : OpR X (compareOp .IsNot) (rIsBN true) := by
  intro pins s σ H x y v u Q I rx ry h
  obtain ⟨b, rfl, h⟩ := h
  rcases h with ⟨rfl, q⟩ | ⟨a, rfl, q⟩
  · cases (show v = Value.none from rx)
    cases (show u = Value.bool b from ry)
    exact wpAny_isNot_other rfl (fun z => nomatch z) ⟨.bl true, H, I, rfl, q⟩
  · exact op_notBl pins s σ H _ _ v u Q I rx ry ⟨a, b, rfl, rfl, q⟩
def oIsBN (neg : Bool) (a b : RV) (_ : Store) : Option RV := match a.1, b.1 with
  | .non, .bl _ => some (.bl neg, .sh)
  | .bl p, .bl q => some (.bl (if neg then !decide (p = q) else decide (p = q)), .sh)
  | _, _ => none
theorem ok_isBN {neg : Bool} : OkOp2 w (rIsBN neg) (oIsBN neg) := by
  intro g ρ S σ H a b x y q Q rel ha hb e k
  have l := ha.read.look
  have l2 := hb.read.look
  unfold oIsBN at e
  split at e
  · rename_i c ea eb
    rw [ea] at l
    rw [eb] at l2
    cases e
    exact ⟨c, l2.bl, .inl ⟨l.non, k _ _ (.same rel (.bl _))⟩⟩
  · rename_i p c ea eb
    rw [ea] at l
    rw [eb] at l2
    cases e
    exact ⟨c, l2.bl, .inr ⟨p, l.bl, k _ _ (.same rel (.bl _))⟩⟩
  · cases e
/-! ### isinstance -/
/-- what built-in type a value has -/
def tyD : D → Option String
  | .non => some "NoneType"
  | .bl _ => some "bool"
  | .int _ => some "int"
  | .str _ => some "str"
  | .tup _ => some "tuple"
  | .lst _ => some "list"
  | .frl _ => some "list"
  | .dk _ => some "dict"
  | _ => none
theorem tyD_ok {m : List Addr} {Z : Addr → Prop} {H : Hp} {d : D} {v : V} {T : String} (h : Look w m Z H d v) (e : tyD d = some T) : TyX w.K H v (.type T) := by
  cases d with
  | non => cases e; cases h.non; exact .base .non
  | bl b => cases e; cases h.bl; exact .base (.bl b)
  | int i => cases e; cases h.int; exact .base (.int i)
  | str x => cases e; cases h.str; exact .base (.str _)
  | tup ds =>
    cases e
    cases h.rep rfl with
    | tup hq r => exact .base (.tup hq)
    | gtup hq r _ => obtain ⟨o, its, n, h1, h2, _⟩ := hq; exact .kTuple h1 h2
    | box b => cases b
  | lst ds => cases e; obtain ⟨a, vs, rfl, hq, r⟩ := h.lst; exact .base (.lst hq)
  | frl ds =>
    cases e
    cases h.rep rfl with
    | frl hq r => exact .base (.frz hq)
    | gfrl hq r => obtain ⟨o, its, n, h1, h2, _⟩ := hq; exact .kList h1 h2
    | box b => cases b
  | dk kvs =>
    cases e
    obtain ⟨a, ks, rfl, hr, r⟩ := h.dk
    rcases hr with hr | ⟨o, hr⟩
    · exact .base (.dK hr)
    · exact .fDict hr
  | _ => cases e
/-- what is asked of an own class whose instances are looked at -/
structure ClsI (K : PySem.W.Frag) (C : Addr) : Prop where
  cl : Cls K C
  ha : PySem.W.findIn K (.ref C) "__class__" = some (some (.builtin "object.__class__"))
  hn : PySem.W.specialIn K (.builtin "object.__class__") "__get__" = some (some (.builtin "getset_descriptor.__get__"))
  ht : PySem.W.takesIn K (.builtin "object.__class__") = some true
  hm : PySem.W.mroIn K C (.type "object") = some true
/-- isinstance(_, u): pb by the built-in type's name, pc by the own class -/
def isiP (pb : String → Option Bool) (pc : Nat → Option Bool) (d : D) : Option Bool := match d with
  | .ins c _ => pc c
  | d => (tyD d).bind pb
structure IsiOk (w : Wd) (u : Value) (pb : String → Option Bool) (pc : Nat → Option Bool) : Prop where
  b : ∀ T k, pb T = some k → PySem.W.kitOne w.K (.type T) u = some k
  c : ∀ c k, pc c = some k → ClsI w.K (w.cl c) ∧ PySem.W.kitOne w.K (.ref (w.cl c)) u = some k
theorem IsiOk.of {u : Value} {pb : String → Option Bool} {pc : Nat → Option Bool} (k : IsiOk w u pb pc) {m : List Addr} {Z : Addr → Prop} {H : Hp} {d : D} {v : V} {b : Bool} (h : Look w m Z H d v) (e : isiP pb pc d = some b) : ∃ t, TyX w.K H v t ∧ PySem.W.kitOne w.K t u = some b := by
  have go : ∀ {T}, tyD d = some T → pb T = some b → ∃ t, TyX w.K H v t ∧ PySem.W.kitOne w.K t u = some b := fun {T} h1 h2 => ⟨_, tyD_ok h h1, k.b T b h2⟩
  cases d with
  | ins c fs =>
    obtain ⟨a, dx, gs, rfl, hi, rn⟩ := h.ins
    obtain ⟨ci, ko⟩ := k.c c b e
    exact ⟨_, .base (.ins hi ci.cl ci.ha ci.hn ci.ht ci.hm), ko⟩
  | _ =>
    unfold isiP at e
    obtain ⟨T, h1, h2⟩ := Option.bind_eq_some_iff.mp e
    exact go h1 h2
def sIsi (p : D → Option Bool) (f : SE) : SE := fun ρ S => (f ρ S).bind fun r S1 => match p (view S1 r.1) with
  | some b => .ok (.bl b, .sh) S1
  | none => .bad
theorem e_isi {e c : Expr} {f : SE} {v : V} {u : Value} {pb : String → Option Bool} {pc : Nat → Option Bool} {p pos : Pos} (hK : X.K = w.K) (b : BN X "isinstance" (.builtin "isinstance")) (k : IsiOk w u pb pc) (cv : ClsV v u) (hc : PE X c (tC v))
    (he : starEach (e :: [c]) X.env = (false, eval e X.env) :: starEach [c] X.env) (he2 : starEach (c :: []) X.env = (false, eval c X.env) :: starEach [] X.env) (hpl : (backTo pos (starEach [c] X.env)).any (·.1) = false) (ha : PE X e (rdE w W f)) :
    PE X (.Call (.Name "isinstance" p) [e, c] [] pos) (rdE w W (sIsi (isiP pb pc) f)) := by
  refine PE.imp (pe_callB (call_isi (X := X)) b.gl b.mg b.bt (pa_cons ha (pa_cons hc pa_nil he2) he) b.n1 b.n2 he hpl) fun σ H Q ⟨g, ρ, S, rel, h⟩ => ?_
  refine rdE_imp (bindE rel h goodE) fun x H1 ⟨r1, S1, m1, s1, rel1, res1, _, h1⟩ => ?_
  split at h1
  · rename_i bb eb
    obtain ⟨t, ty, ko⟩ := k.of (look_view rel1 res1.arg) eb
    exact ⟨x, v, t, u, bb, rfl, cv, hK ▸ ty, hK ▸ ko, h1 _ _ (.same rel1 (.bl bb))⟩
  · exact h1.elim
end
end DL

set_option maxRecDepth 100000
set_option maxHeartbeats 2000000
/-! The value layer: the law's own call, no repr around it. -/
namespace DL
open PySem PySem.Spec PyProof.Rows L2
section
variable {P : Program} {pw : World} {K : PySem.W.Frag} {mg mb : Str → Option Value} {k : Nat} {fa a : Addr} {fd : FuncData} {x : Str} {sp : Sp} {s₁ : Shared} {vs : List Value} {ns : List Int}
abbrev LawEnd (s₁ : Shared) (r : Result) (s' : Shared) : Prop := r = .ok (.ret (.bool true)) ∧ OldK s₁.heap s'.heap ∧ s'.os = s₁.os ∧ AllBare s'.gens
/-- from a heap in which at most the script is tracked -/
theorem law_from (KX : K.In s₁.heap) (hns : s₁.heap.Ns mainGlobals mg) (hb : s₁.heap.Ns builtinsNs mb) (hbb : ∀ x : Str, x ≠ "__name__" → mb x = bootBuiltins x) (hlim : s₁.heap.NoLimit) (hg : s₁.gens = #[])
    (ha : s₁.heap.get? a = some { cls := .type "list", data := .seq vs.toArray }) (hr : Room k PySem.callerA)
    (F : ∀ base : Heap, K.In base → base.Ns mainGlobals mg → FnG P pw K mg base k fa fd [x] sp) (hbind : ∀ (s : Shared) (u : Value), BindsTo s fd ⟨[u], []⟩ [(x, u)])
    {H : Hp} (only : Only H) (hok : HOk P pw H s₁.heap) (hA : ∀ b, H b ≠ none → b = a) (hK : H a ≠ none → K.lookup a = none) (said : sp [.ref a] H (fun v _ => v = .bl true) fun _ _ _ => False) :
    codeAny (model P pw) PySem.callerA (.call (.ref fa) ⟨[.ref a], []⟩) (LawEnd s₁) s₁ := by
  have dictFree : ∀ {b : Addr} {o : Obj} {es : Array DictEntry} {ep : Nat}, s₁.heap.get? b = some o → o.data = .dict es ep → H b = none := by
    intro b o es ep e d
    cases q : H b with
    | none => rfl
    | some u =>
      obtain rfl : b = a := hA b (by rw [q]; simp)
      have : some o = some { cls := .type "list", data := .seq vs.toArray } := e.symm.trans ha
      cases this
      exact absurd (show Data.seq vs.toArray _ = Data.dict es ep from d) (by intro z; cases z)
  have nsB : ∀ {b : Addr} {m : Str → Option Value}, s₁.heap.Ns b m → (hidT s₁.heap H).Ns b m := fun {_ _} ⟨o, es, ep, e, d, r⟩ => ⟨o, es, ep, hidT_get e (dictFree e d), d, r⟩
  have kB : K.In (hidT s₁.heap H) := by
    intro b o e
    refine hidT_get (KX b o e) ?_
    cases q : H b with
    | none => rfl
    | some u =>
      obtain rfl : b = a := hA b (by rw [q]; simp)
      rw [hK (by rw [q]; simp)] at e
      cases e
  have hM : Mod K mg (hidT s₁.heap H) := ⟨kB, nsB hns, ⟨mb, nsB hb, hbb⟩, hlim.imp fun mc h => ⟨nsB h.1, h.2⟩⟩
  have env : Env0 P pw K mg (hidT s₁.heap H) PySem.callerA [] s₁ H := ⟨rfl, hM, fun b o e => of_hidT e, Nat.le_of_eq (hidT_size _ _), trivial, fun b hb => absurd (show b ∈ ([] : List Addr) from hb) (by simp), hok, .of_eq hg⟩
  have run := (F _ kB (nsB hns)).run PySem.callerA [] s₁ H ⟨[.ref a], []⟩ [.ref a] [.ref a] _ _ rfl hr env (hbind s₁ (.ref a)) (.cons rfl .nil) said
  refine codeAny_mono run fun r s' h => ?_
  cases r with
  | error e => exact False.elim h
  | ok fl =>
    cases fl with
    | next => exact False.elim h
    | brk => exact False.elim h
    | cont => exact False.elim h
    | ret u =>
      obtain ⟨v, H', os, bare, un, hok', rv, q⟩ := h
      subst q
      obtain rfl : u = Value.bool true := rv
      refine ⟨rfl, OldK.of_keep fun b o e => ?_, os, bare⟩
      rcases only b with z | ⟨ob, xs, z⟩
      · exact un.keep b o e z (by intro q; exact absurd (show b ∈ ([] : List Addr) from q) (by simp)) (by simp)
      · obtain ⟨e1, _⟩ := hok b _ z
        obtain ⟨e2, _⟩ := hok' b _ (un.frzs b ob _ z)
        rw [e] at e1
        cases e1
        exact e2
theorem law_callG (KX : K.In s₁.heap) (hns : s₁.heap.Ns mainGlobals mg) (hb : s₁.heap.Ns builtinsNs mb) (hbb : ∀ x : Str, x ≠ "__name__" → mb x = bootBuiltins x) (hlim : s₁.heap.NoLimit) (hg : s₁.gens = #[])
    (ha : s₁.heap.get? a = some { cls := .type "list", data := .seq vs.toArray }) (hi : IntsAre vs ns) (hl : ns.length ≤ sizeLine) (hr : Room k PySem.callerA)
    (F : ∀ base : Heap, K.In base → base.Ns mainGlobals mg → FnG P pw K mg base k fa fd [x] sp) (hbind : ∀ (s : Shared) (u : Value), BindsTo s fd ⟨[u], []⟩ [(x, u)])
    (hsp : ∀ H : Hp, Only H → (KLst K a (ns.map V.int) ∧ (∀ b, H b = none) ∨ ∃ o, H a = some (.frz o (.lst (ns.map V.int)))) → sp [.ref a] H (fun v _ => v = .bl true) fun _ _ _ => False) :
    codeAny (model P pw) PySem.callerA (.call (.ref fa) ⟨[.ref a], []⟩) (LawEnd s₁) s₁ := by
  have rv := L2.vals_ints hi
  cases hk : K.lookup a with
  | some o =>
    have e := KX a o hk
    rw [ha] at e
    cases e
    refine law_from KX hns hb hbb hlim hg ha hr F hbind (H := fun _ => none) (fun _ => .inl rfl) (fun b u z => by cases z) (fun b z => absurd rfl z) (fun z => absurd rfl z) (hsp _ (fun _ => .inl rfl) (.inl ⟨?_, fun _ => rfl⟩))
    exact ⟨_, vs.toArray, _, hk, rfl, rfl, rfl, by rw [List.size_toArray, hi.length]; exact hl, by simpa using rv⟩
  | none =>
    let o0 : Obj := { cls := .type "list", data := .seq vs.toArray }
    let H0 : Hp := fun b => if b = a then some (.frz o0 (.lst (ns.map V.int))) else none
    have at_a : H0 a = some (.frz o0 (.lst (ns.map V.int))) := if_pos rfl
    have off : ∀ {b}, b ≠ a → H0 b = none := fun h => if_neg h
    have onlyA : Only H0 := fun b => by
      by_cases h : b = a
      · exact .inr ⟨o0, _, by rw [h]; exact at_a⟩
      · exact .inl (off h)
    refine law_from KX hns hb hbb hlim hg ha hr F hbind (H := H0) onlyA (fun b u z => ?_) (fun b z => Classical.byContradiction fun h => z (off h)) (fun _ => hk) (hsp _ onlyA (.inr ⟨o0, at_a⟩))
    by_cases h : b = a
    · subst h
      rw [at_a] at z
      cases z
      exact ⟨ha, by rw [List.length_map]; exact hl, vs, _, rv, ha⟩
    · rw [off h] at z
      cases z
end
/-- the goal that the head leaves, from the law's function of values -/
theorem walk_G {l : PySem.W.OpenLaw} {n k : Nat} {q : Program} {loose : List Str} {XP : (Str → Option Value) → Heap → Prop} {YP : World → Heap → Prop} {d : DefRec} {K : Params → PySem.W.Frag} {x : Str} {sp : PySem.W.Frag → Sp}
    (hn : l.most = some n) (hn2 : n ≤ sizeLine) (hdf : d.params.defaults = []) (hr : Room k PySem.callerA) (hY : ∀ (w : World) (h : Heap), YP w h → (K w.params).In h)
    (F : ∀ (w : World) (mg : Str → Option Value) (fa : Addr) (h : Heap), (K w.params).In h → h.Ns mainGlobals mg → mg d.name = some (.ref fa) →
      ∃ fd : FuncData, (∀ (s : Shared) (u : Value), BindsTo s fd ⟨[u], []⟩ [(x, u)]) ∧ ∀ base : Heap, (K w.params).In base → base.Ns mainGlobals mg → FnG l.prog w (K w.params) mg base k fa fd [x] (sp (K w.params)))
    (hsp : ∀ (K : PySem.W.Frag) (H : Hp) (a : Addr) (ns : List Int), ns.length ≤ n → (∀ z ∈ ns, Builtin.Int.intBits z ≤ 1048576) → (KLst K a (ns.map V.int) ∧ (∀ b, H b = none) ∨ ∃ o, H a = some (.frz o (.lst (ns.map V.int)))) → sp K [.ref a] H (fun v _ => v = .bl true) fun _ _ _ => False) :
    PySem.W.WalkO q loose XP YP l.row.toRowW d [] (fun f vs => PySem.call f vs) := by
  refine Att.attach_callB hn hdf fun w s₀ s₁ mg mb fa o pm cd doc a vs ns G Y ho hd hcd hmg hobj hints hlen hbits hg => ?_
  have KX := hY w _ Y
  obtain ⟨fd, hb, hF⟩ := F w mg fa _ KX G.T.g hmg
  exact law_callG KX G.T.g G.T.b G.T.builtins G.T.nolimit hg hobj hints (Nat.le_trans hlen hn2) hr hF hb fun H _ hS => hsp _ H a ns hlen hbits hS
end DL

set_option maxRecDepth 100000
/-! The value layer: shorthand for what a program prints. -/
namespace DL
open PySem L2
section
variable {w : Wd} {W : WX} {X : Cx}
/-! ### what is not come to -/
def sBadE : SE := fun _ _ => .bad
def sBadS : SS := fun _ _ => .bad
theorem e_bad {e : Expr} : PE X e (rdE w W sBadE) := ⟨fun pins s σ H Q I ⟨g, ρ, S, rel, h⟩ => h.elim⟩
theorem st_bad {st : Stmt} : PS X st (rdS w W sBadS) := ⟨fun pins s σ H D I ⟨g, ρ, S, rel, h⟩ => h.elim⟩
theorem ss_bad {st : List Stmt} : PSs X st (rdS w W sBadS) := ⟨fun pins s σ H D I ⟨g, ρ, S, rel, h⟩ => h.elim⟩
/-! ### a list taken apart -/
def gLs (n : Nat) (ts : Tgts) : Tgt := fun d ρ => match d with
  | .lst ds => if ds.length = n then ts ds ρ else none
  | _ => none
theorem g_ls {es : List Expr} {k : Nat} {p : Pos} {n : Nat} {ns : List Nat} {ts : Tgts} (hK : X.K = w.K) (hc : X.calm = true) (hn : (assignEach es X.env).length = n) (hst : (assignEach es X.env).findIdx? (·.1) = none) (h : PGs X es (rdGs w ns ts)) : PG X (.Tuple es k p) (rdG w ns (gLs n ts)) := by
  refine PG.imp (pg_lst (n := n) hc h hn hst) fun v σ H Q ⟨g, ρ, S, d, ρ', rel, r, e, h⟩ => ?_
  unfold gLs at e
  split at e
  · rename_i ds
    split at e
    · rename_i c
      obtain ⟨a, vs, rfl, ht, rs⟩ := Look.lst (.inl r)
      exact ⟨a, vs, rfl, .of ht, by rw [← rs.length]; exact c, g, ρ, S, ds, ρ', rel, rs, e, h⟩
    · cases e
  · cases e
/-! ### room -/
theorem cr_of {k : Nat} (hr : Room k X.A) (hc : X.calm = true) : CxR X := ⟨by have := hr.un; omega, hc⟩
theorem units_of {k : Nat} (hr : Room k X.A) : X.A.units + 1 < cLine := by have := hr.un; omega
theorem units2_of {k : Nat} (hr : Room k X.A) : X.A.units + 200 < cLine := by have := hr.un; omega
theorem bn_of {x : Str} {u : Value} (gl : Gl X x) (mg : X.mg x = none) (bt : bootBuiltins x = some u) (n1 : x ≠ "__name__" := by decide) (n2 : (x == ("__debug__" : Str)) = false := by decide) : BN X x u := ⟨gl, mg, bt, n1, n2⟩
/-! ### built-in calls of one or two arguments -/
def sB1 (op : RV → Store → Option RV) (f : SE) : SE := sOpN (on1 op) (sCons f sNil)
def sB2 (op : RV → RV → Store → Option RV) (f u : SE) : SE := sOpN (on2 op) (sCons f (sCons u sNil))
structure C1 (X : Cx) (e : Expr) (pos : Pos) : Prop where
  s : starEach [e] X.env = (false, eval e X.env) :: starEach [] X.env
  p : (backTo pos (starEach [] X.env)).any (·.1) = false
structure C2 (X : Cx) (e f : Expr) (pos : Pos) : Prop where
  s : starEach [e, f] X.env = (false, eval e X.env) :: starEach [f] X.env
  s2 : starEach [f] X.env = (false, eval f X.env) :: starEach [] X.env
  p : (backTo pos (starEach [f] X.env)).any (·.1) = false
theorem a_1 {e : Expr} {f : SE} (hs : starEach [e] X.env = (false, eval e X.env) :: starEach [] X.env) (h : PE X e (rdE w W f)) : PA X [e] (rdA w W (sCons f sNil)) := a_cons hs h a_nil
theorem e_bf1 {r : List V → Hp → VK → Prop} {op : RV → Store → Option RV} {x : Str} {id : String} {e : Expr} {f : SE} {p pos : Pos} (ok : OkOp1 w (fun x H Q => r [x] H Q) op) (hc : CallR X (.builtin id) r) (b : BN X x (.builtin id)) (c : C1 X e pos) (h : PE X e (rdE w W f)) :
    PE X (.Call (.Name x p) [e] [] pos) (rdE w W (sB1 op f)) := e_callB (ok_on1 ok) hc b c.s c.p (a_1 c.s h)
theorem e_bt1 {r : List V → Hp → VK → Prop} {op : RV → Store → Option RV} {x : Str} {T : String} {e : Expr} {f : SE} {p pos : Pos} (ok : OkOp1 w (fun x H Q => r [x] H Q) op) (hc : CallR X (.type T) r) (b : BN X x (.type T)) (c : C1 X e pos) (h : PE X e (rdE w W f)) :
    PE X (.Call (.Name x p) [e] [] pos) (rdE w W (sB1 op f)) := e_callTy (ok_on1 ok) hc b c.s c.p (a_1 c.s h)
theorem e_bf2 {r : List V → Hp → VK → Prop} {op : RV → RV → Store → Option RV} {x : Str} {id : String} {e e2 : Expr} {f u : SE} {p pos : Pos} (ok : OkOp2 w (fun x y H Q => r [x, y] H Q) op) (hc : CallR X (.builtin id) r) (b : BN X x (.builtin id)) (c : C2 X e e2 pos) (h : PE X e (rdE w W f)) (h2 : PE X e2 (rdE w W u)) :
    PE X (.Call (.Name x p) [e, e2] [] pos) (rdE w W (sB2 op f u)) := e_callB (ok_on2 ok) hc b c.s c.p (a_cons c.s h (a_1 c.s2 h2))
end
end DL

set_option maxRecDepth 100000
/-! The value layer: rules with what a context shows by itself left out. -/
namespace DL
open PySem L2
section
variable {w : Wd} {W : WX} {X : Cx}
theorem pvE (i : Nat) {x : Str} {pos : Pos} (hN : X.N[i]? = some x := by rfl) (hv : Vis X.env.scope x := by first | exact Or.inl rfl | exact Or.inr (Or.inl rfl) | exact Or.inr (Or.inr rfl)) (hd : (x == ("__debug__" : Str)) = false := by decide)
    (hcd : (x == ("__classdict__" : Str)) = false := by decide) : PE X (.Name x pos) (rdE w W (sVar i)) := e_var i hN hv hd hcd
theorem aC {e : Expr} {es : List Expr} {f : SE} {fs : SA} (ha : PE X e (rdE w W f)) (hr : PA X es (rdA w W fs)) (hs : starEach (e :: es) X.env = (false, eval e X.env) :: starEach es X.env := by rfl) : PA X (e :: es) (rdA w W (sCons f fs)) := a_cons hs ha hr
/-- a comparison as a value, as a test -/
theorem eC {op : CmpOp} {r : R2} {f : RV → RV → Store → Option RV} (ok : OkOp2 w r f) (ho : OpR X (compareOp op) r) {a b : Expr} {fa fb : SE} {pos : Pos} (ha : PE X a (rdE w W fa)) (hb : PE X b (rdE w W fb)) (hm : behindInMarks op b = false := by first | exact nomark _ | with_unfolding_all rfl) :
    PE X (.Compare a [op] [b] pos) (rdE w W (sOp2 f fa fb)) := e_cmp ok ho hm ha hb
theorem tC' {op : CmpOp} {r : R2} {f : RV → RV → Store → Option RV} (ok : OkOp2 w r f) (ho : OpR X (compareOp op) r) {a b : Expr} {fa fb : SE} {pos : Pos} (ha : PE X a (rdE w W fa)) (hb : PE X b (rdE w W fb)) (hm : behindInMarks op b = false := by first | exact nomark _ | with_unfolding_all rfl) :
    PT X (.Compare a [op] [b] pos) (rdT w W (sT (sOp2 f fa fb))) := t_cmp ok ho hm ha hb
theorem tV {e : Expr} {f : SE} (h : PE X e (rdE w W f)) (he : ∀ whole, isTrue e X.env whole = (do let v ← whole; standAt e.pos; holding [v] (truthy v)) := by intro _; rfl) : PT X e (rdT w W (sT f)) := t_val he h
theorem eIx {a b : Expr} {fa fb : SE} {pos : Pos} (ha : PE X a (rdE w W fa)) (hb : PE X b (rdE w W fb)) (hK : X.K = w.K := by rfl) (hs : PlainIx b := by intro _ _; rfl) : PE X (.Subscript a b pos) (rdE w W (sOp2 oIdx fa fb)) := e_idx hs ha hb hK
theorem eDg {a b : Expr} {fa fb : SE} {pos : Pos} (hu : X.A.units + 1 < cLine) (ha : PE X a (rdE w W fa)) (hb : PE X b (rdE w W fb)) (hs : NoSl b := by intro _ _; rfl) : PE X (.Subscript a b pos) (rdE w W (sOp2 oDGet fa fb)) := e_dget hu hs ha hb
theorem eChain {op op' : CmpOp} {r r' : R2} {o o' : RV → RV → Store → Option RV} (ok : OkOp2 w r o) (ok' : OkOp2 w r' o') (ho : OpR X (compareOp op) r) (ho' : OpR X (compareOp op') r') {a b c : Expr} {f u v : SE} {pos : Pos}
    (ha : PE X a (rdE w W f)) (hb : PE X b (rdE w W u)) (hc : PE X c (rdE w W v)) (hm : lastMarks [op, op'] [b, c] = false := by with_unfolding_all rfl) : PE X (.Compare a [op, op'] [b, c] pos) (rdE w W (sChain o o' f u v)) := e_chain ok ok' ho ho' hm ha hb hc
theorem tChain' {op op' : CmpOp} {r r' : R2} {o o' : RV → RV → Store → Option RV} (ok : OkOp2 w r o) (ok' : OkOp2 w r' o') (ho : OpR X (compareOp op) r) (ho' : OpR X (compareOp op') r') {a b c : Expr} {f u v : SE} {pos : Pos}
    (ha : PE X a (rdE w W f)) (hb : PE X b (rdE w W u)) (hc : PE X c (rdE w W v)) (hm : lastMarks [op, op'] [b, c] = false := by with_unfolding_all rfl) : PT X (.Compare a [op, op'] [b, c] pos) (rdT w W (sT (sChain o o' f u v))) := t_chain ok ok' ho ho' hm ha hb hc
theorem gNmE (i : Nat) {x : Str} {p : Pos} (o : Sto X i x) : PG X (.Name x p) (rdG w [i] (gNm i)) := g_nm o
theorem stoE {i : Nat} {x : Str} (nd : X.N.Nodup) (h : X.N[i]? = some x := by rfl) (l : L2.Loc X.env.scope x := by first | exact Or.inl rfl | exact Or.inr rfl | exact Or.inr (Or.inl rfl) | exact Or.inr (Or.inr rfl))
    (f : X.fn x = true ∨ X.env.scope.names.lookup x = some .local := by first | exact Or.inl rfl | exact Or.inr rfl) : Sto X i x := ⟨nd, h, l, f⟩
theorem stSet (i : Nat) {x : Str} {e : Expr} {f : SE} {p pos : Pos} (nd : X.N.Nodup) (he : PE X e (rdE w W f)) (o : Sto X i x) (hs : swapsWith e (some (.Name x p)) pos.line X.env = pure false := by rfl) : PS X (.Assign [.Name x p] e pos) (rdS w W (sSet i f)) := st_set o hs he
theorem stFor {iter tg : Expr} {body : List Stmt} {ns : List Nat} {f : SI} {t : Tgt} {b : SS} {pos : Pos} (hi : PI X tg iter (rdI w W f)) (hg : PG X tg (rdG w ns t)) (hb : PSs X body (rdS w W b)) (hp : PassesOwn (model X.prog X.w) X.A X.env X.xe := by exact PassesOwn.never) (hc : X.calm = true := by rfl)
    (hs : ∀ x, foldedSetIterable iter X.env x = pure x := by intro _; rfl) : PS X (.For tg iter body [] pos) (rdS w W (sFor f t b)) := st_for hp hc hs hi hg hb
theorem stWhile {c : Expr} {body : List Stmt} {t : ST} {b : SS} {pos : Pos} (hc : PT X c (rdT w W t)) (hb : PSs X body (rdS w W b)) (hp : PassesOwn (model X.prog X.w) X.A X.env X.xe := by exact PassesOwn.never) : PS X (.While c body [] pos) (rdS w W (sWhile t b)) := st_while hp hc hb
theorem eLc {elt tg iter : Expr} {ifs : List Expr} {scope : Scope} (own : List (Str × Nat)) {pos : Pos} {ns : List Nat} {fi : SI} {t : Tgt} {c : ST} {f : SE} (hN : X.N.Nodup) (hi : PI X tg iter (rdI w W fi)) (hg : AllBlk X scope fun B => PG B tg (rdG w ns t)) (ht : AllBlk X scope fun B => PTs B ifs (rdT w WF c)) (he : AllBlk X scope fun B => PE B elt (rdE w WF f))
    (ok : BlkOk X.N X.env.scope scope own := by exact blkOk_by (by decide +kernel)) (hns : ∀ n ∈ ns, n ∈ own.map (·.2) := by decide) (hc : X.calm = true := by rfl) (hs : ∀ x, foldedSetIterable iter X.env x = pure x := by intro _; rfl) :
    PE X (.ListComp elt [⟨tg, iter, ifs, 0⟩] scope pos) (rdE w W (sLc fi t c f (own.map (·.2)))) := e_lc hc hN hs ok hns hi hg ht he
theorem stLc (i : Nat) {y : Str} {py : Pos} {elt tg iter : Expr} {ifs : List Expr} {scope : Scope} (own : List (Str × Nat)) {pos spos : Pos} {ns : List Nat} {fi : SI} {t : Tgt} {c : ST} {f : SE} (nd : X.N.Nodup) (hi : PI X tg iter (rdI w W fi)) (hg : AllBlk X scope fun B => PG B tg (rdG w ns t)) (ht : AllBlk X scope fun B => PTs B ifs (rdT w WF c)) (he : AllBlk X scope fun B => PE B elt (rdE w WF f)) (o : Sto X i y)
    (hyl : X.env.scope.names.lookup y = some .local := by rfl) (hsw : swapsWith (.ListComp elt [⟨tg, iter, ifs, 0⟩] scope pos) (some (.Name y py)) spos.line X.env = pure true := by rfl)
    (ok : BlkOk X.N X.env.scope scope own := by exact blkOk_by (by decide +kernel)) (hns : ∀ n ∈ ns, n ∈ own.map (·.2) := by decide) (hc : X.calm = true := by rfl) (hs : ∀ x, foldedSetIterable iter X.env x = pure x := by intro _; rfl) :
    PS X (.Assign [.Name y py] (.ListComp elt [⟨tg, iter, ifs, 0⟩] scope pos) spos) (rdS w W (sSet i (sLc fi t c f (own.map (·.2))))) := st_setLc hc o hyl hsw hs ok hns hi hg ht he
end
end DL

set_option maxRecDepth 100000
set_option maxHeartbeats 2000000
/-! Defs with defaults; what the top has written, asked by truths. -/
namespace DL
open PySem L2
section
variable {P : Program} {pw : World} {K : PySem.W.Frag} {mg : Str → Option Value} {base : Heap} {w : Wd}
abbrev FunX (K : PySem.W.Frag) (x qual : Str) (st : Stmt) (dvs : List V) (f : Addr) (fd : FuncData) : Prop := FunD K x qual (defArgs st) (defBody st) (defScope st) dvs [] f fd
theorem fun_ok {x qual : Str} {st : Stmt} {dvs : List V} {f : Addr} {fd : FuncData} {N ps : List Str} {k : Nat} {sp : Sp} (F : FunX K x qual st dvs f fd) (S : FnScope N ps (defScope st)) (len : ∀ vs H Q E, sp vs H Q E → vs.length = ps.length)
    (hbody : ∀ (cdv : Value) (A : Around) (outer : List Env) (s : Shared) (H : Hp) (vs : List V) (Q : VK) (E : XK), Room k (A.deeper (PyProof.Rows.envOfC qual (defScope st) s.heap.objs.size f cdv)) → sp vs H Q E →
      ∃ t, PSs (cxOf CX0 P pw K mg base N qual (defScope st) f cdv A outer s H E).nox (defBody st) t ∧ t { nx := fun _ H' => Q .non H', rt := Q } (L2.start N vs) H) : FnOk P pw K mg base CX0 (k + 1) f fd ps sp :=
  FunD.ok F S len fun cdv A outer s H vs Q E hr h => let ⟨t, h1, h2⟩ := hbody cdv A outer s H vs Q E hr h; ⟨t, h1.nox, h2⟩
theorem fn_okD {x qual : Str} {st : Stmt} {dvs : List V} {f : Addr} {fd : FuncData} {N ps : List Str} {k : Nat} {b : SS} (F : FunX K x qual st dvs f fd) (S : FnScope N ps (defScope st))
    (hb : ∀ (cdv : Value) (A : Around) (outer : List Env) (s : Shared) (H : Hp) (E : XK), Room k (A.deeper (PyProof.Rows.envOfC qual (defScope st) s.heap.objs.size f cdv)) → PSs (cxOf CX0 P pw K mg base N qual (defScope st) f cdv A outer s H E).nox (defBody st) (rdS w WF b)) :
    FnOk P pw K mg base CX0 (k + 1) f fd ps (spF w ps.length (bodyF N.length b)) := by
  refine fun_ok F S (fun vs H Q E ⟨g, rs, S, _, a, hl, _⟩ => a.length ▸ hl) fun cdv A outer s H vs Q E hr ⟨g, rs, S0, e, a, hl, post⟩ => ?_
  refine ⟨_, hb cdv A outer s H E hr, g, _, S0, e.rel a, ?_⟩
  unfold bodyF at post
  cases ev : b (entry N.length rs) S0 with
  | nx ρ S' => rw [ev] at post; exact fun σ' H' ⟨g', s', r'⟩ => post .non H' ⟨g', s', r'.sto, r'.nd, r'.sep, r'.trk, r'.sez, .non⟩
  | rt r S' => rw [ev] at post; exact post
  | bk ρ S' => rw [ev] at post; exact post.elim
  | ct ρ S' => rw [ev] at post; exact post.elim
  | ex d ρ S' => rw [ev] at post; exact post.elim
  | bad => rw [ev] at post; exact post.elim
theorem init_okD {x qual : Str} {st : Stmt} {dvs : List V} {f : Addr} {fd : FuncData} {N ps : List Str} {k c : Nat} {b : SS} (F : FunX K x qual st dvs f fd) (S : FnScope N ps (defScope st))
    (hb : ∀ (cdv : Value) (A : Around) (outer : List Env) (s : Shared) (H : Hp) (E : XK), Room k (A.deeper (PyProof.Rows.envOfC qual (defScope st) s.heap.objs.size f cdv)) → PSs (cxOf CX0 P pw K mg base N qual (defScope st) f cdv A outer s H E).nox (defBody st) (rdS w WF b)) :
    FnOk P pw K mg base CX0 (k + 1) f fd ps (spI w c ps.length (initF N.length c b)) := by
  refine fun_ok F S (fun vs H Q E ⟨g, rs, S, x, dx, us, ev, _, _, a, _, hl, _⟩ => by rw [ev, List.length_cons, ← a.length, hl]) fun cdv A outer s H vs Q E hr ⟨g, rs, S0, x, dx, us, ev, hx, e, a, la, hl, post⟩ => ?_
  subst ev
  refine ⟨_, hb cdv A outer s H E hr, g, _, S0, e.rel hx a la, ?_⟩
  unfold initF at post
  cases ev : b (entryI N.length c rs) S0 with
  | nx ρ S' =>
    rw [ev] at post
    dsimp only at post
    intro σ' H' ⟨g', s', r'⟩
    cases e0 : ρ[(0 : Nat)]? with
    | none => rw [e0] at post; exact post.elim
    | some o =>
      cases o with
      | none => rw [e0] at post; exact post.elim
      | some q =>
        obtain ⟨d, fl⟩ := q
        cases d with
        | ins c' fs =>
          cases fl with
          | own =>
            rw [e0] at post
            obtain ⟨v, hv, y, rfl, bx, yz, ym⟩ := r'.loc 0 _ _ e0
            have hxy := r'.slf x _ (s'.sl.trans e.sl) e0
            rw [hv] at hxy
            cases hxy
            exact post H' ⟨g', s', r'.sto, r'.nd, r'.sep, r'.trk, r'.sez, x, rfl, ym, bx, yz⟩
          | _ => rw [e0] at post; exact post.elim
        | _ => rw [e0] at post; cases fl <;> exact post.elim
  | rt r S' => rw [ev] at post; exact post.elim
  | bk ρ S' => rw [ev] at post; exact post.elim
  | ct ρ S' => rw [ev] at post; exact post.elim
  | ex d ρ S' => rw [ev] at post; exact post.elim
  | bad => rw [ev] at post; exact post.elim
/-- a def without defaults, as one that has them -/
theorem fun_noD {x qual : Str} {st : Stmt} {f : Addr} {fd : FuncData} (F : FunX K x qual st [] f fd) : L2.Fun K x qual st f fd := by
  obtain ⟨oc, od, dV, kV, doc, pm, an, cdv, ct, osl, e, lk, hcd, hd, _⟩ := F.ex
  rcases hd with ⟨_, rfl⟩ | ⟨q, _⟩
  · exact ⟨⟨oc, od, kV, doc, pm, an, cdv, ct, osl, e, lk, hcd⟩, F.kp⟩
  · exact absurd rfl q
end
/-! ### defs as they are written -/
def fnWA (K : PySem.W.Frag) (a : Addr) : He.FnW := match K.lookup a with
  | some ⟨_, _, .func fd, _⟩ => some (fd.name, fd.qualname, fd.params, fd.body, fd.scope, fd.globals, fd.closure, fd.builtins)
  | _ => none
def fnB (K : PySem.W.Frag) (a : Addr) (qual : Str) (dvs : List V) : Bool := PySem.W.keepIn K (.ref a) && (match K.lookup a with
  | some ⟨_, _, .func fd, _⟩ => PySem.W.codeIn K fd.code qual && He.dflB K fd.defaults dvs
  | _ => false)
def fnVal (x qual : Str) (st : Stmt) : He.FnW := some (x, qual, defArgs st, .stmts (defBody st), defScope st, mainGlobals, [], builtinsNs)
theorem and2 {a b : Bool} (h : (a && b) = true) : a = true ∧ b = true := by
  cases a <;> cases b <;> simp_all
theorem funD_of {K : PySem.W.Frag} {a : Addr} {x qual : Str} {st : Stmt} {dvs : List V} (e : fnWA K a = fnVal x qual st) (c : fnB K a qual dvs = true) : ∃ fd, FunX K x qual st dvs a fd := by
  obtain ⟨kp, c2⟩ := and2 c
  unfold fnWA fnVal at e
  cases q : K.lookup a with
  | none => rw [q] at c2; cases c2
  | some o =>
    obtain ⟨oc, od, dt, osl⟩ := o
    rw [q] at c2 e
    cases dt with
    | func fd =>
      obtain ⟨n1, n2, n3, n4, n5, n6, n7, n8, n9, n10, n11, n12, n13, n14, n15⟩ := fd
      simp only [Option.some.injEq, Prod.mk.injEq] at e
      obtain ⟨h1, h2, h3, h4, h5, h6, h7, h8⟩ := e
      subst h1 h2 h3 h4 h5 h6 h7 h8
      obtain ⟨k1, k2⟩ := and2 c2
      exact ⟨_, ⟨oc, od, n8, n9, n10, n11, n12, n13, n14, osl, rfl, q, k1, He.dflB_ok k2, .inl rfl⟩, kp⟩
    | _ => cases c2
/-! ### classes -/
def clsB (K : PySem.W.Frag) (C : Addr) : Bool := PySem.W.plainGet K C Str.empty && (PySem.W.hasDictIn K C && (PySem.W.plainOver K C && decide (PySem.W.findIn K (.ref C) "__setattr__" = some (some (.builtin "object.__setattr__")))))
theorem clsB_ok {K : PySem.W.Frag} {C : Addr} (h : clsB K C = true) : Cls K C := by
  obtain ⟨h1, h⟩ := and2 h
  obtain ⟨h2, h⟩ := and2 h
  obtain ⟨h3, h⟩ := and2 h
  exact ⟨h1, h2, h3, of_decide_eq_true h⟩
def noatB (K : PySem.W.Frag) (C : Addr) (f : Str) : Bool := decide (PySem.W.findIn K (.ref C) f = some none)
theorem noatB_ok {K : PySem.W.Frag} {C : Addr} {f : Str} (h : noatB K C f = true) : NoAttr K C f := show PySem.W.findIn K (.ref C) f = some none from of_decide_eq_true h
def mkB (K : PySem.W.Frag) (C f : Addr) : Bool := PySem.W.makesIn K C && (decide (PySem.W.findIn K (.ref C) "__init__" = some (some (.ref f))) && (PySem.W.isFn K (.ref f) && PySem.W.keepIn K (.ref C)))
theorem mkB_ok {K : PySem.W.Frag} {C f : Addr} (h : mkB K C f = true) : Mk K C f := by
  obtain ⟨h1, h⟩ := and2 h
  obtain ⟨h2, h⟩ := and2 h
  obtain ⟨h3, h⟩ := and2 h
  exact ⟨h1, of_decide_eq_true h2, h3, h⟩
def getOf (K : PySem.W.Frag) (p : Addr) : Addr := match PySem.W.recIn K p "property" with
  | some (.ref g :: _) => g
  | _ => 0
def propB (K : PySem.W.Frag) (C : Addr) (f : Str) (p g : Addr) : Bool := decide (PySem.W.findIn K (.ref C) f = some (some (.ref p))) && (decide (PySem.W.specialIn K (.ref p) "__get__" = some (some (.builtin "property.__get__"))) && (decide (PySem.W.takesIn K (.ref p) = some true) && (match PySem.W.recIn K p "property" with
  | some (.ref q :: _) => decide (q = g)
  | _ => false)))
theorem propB_ok {K : PySem.W.Frag} {C : Addr} {f : Str} {p g : Addr} (h : propB K C f p g = true) : PropOf K C f p g := by
  obtain ⟨h1, h⟩ := and2 h
  obtain ⟨h2, h⟩ := and2 h
  obtain ⟨h3, h⟩ := and2 h
  refine ⟨of_decide_eq_true h1, of_decide_eq_true h2, of_decide_eq_true h3, ?_⟩
  split at h
  · rename_i q r e
    exact ⟨r, by rw [e, of_decide_eq_true h]⟩
  · cases h
def refOr (o : Option (Option Value)) : Bool := match o with
  | some none => true
  | some (some (.ref _)) => true
  | _ => false
theorem refOr_ok {o : Option (Option Value)} (h : refOr o = true) : ∃ rc, o = some rc ∧ (rc = none ∨ ∃ g : Addr, rc = some (.ref g)) := by
  unfold refOr at h
  split at h
  · exact ⟨none, rfl, .inl rfl⟩
  · exact ⟨_, rfl, .inr ⟨_, rfl⟩⟩
  · cases h
def bin1B (K : PySem.W.Frag) (C : Addr) (nm : String) (g : Addr) : Bool := PySem.W.selfFirst K C && (decide (PySem.W.findIn K (.ref C) (PySem.dunder nm) = some (some (.ref g))) && refOr (PySem.W.findIn K (.ref C) (dunderR nm)))
theorem bin1B_ok {K : PySem.W.Frag} {C g : Addr} {nm : String} (h : bin1B K C nm g = true) : Bin1 K C nm g := by
  obtain ⟨h1, h⟩ := and2 h
  obtain ⟨h2, h⟩ := and2 h
  exact ⟨h1, of_decide_eq_true h2, refOr_ok h⟩
def binB (K : PySem.W.Frag) (cl : Nat → Addr) (cs : List Nat) (nm : String) (g : Addr) : Bool := cs.all (fun c => bin1B K (cl c) nm g && (decide (PySem.W.subIn K (.type "int") (.ref (cl c)) = some false) && cs.all fun c' => decide (cl c = cl c') || decide (PySem.W.subIn K (.ref (cl c')) (.ref (cl c)) = some false))) &&
  (PySem.W.isFn K (.ref g) && ((PySem.W.findIn K (.type "int") (PySem.dunder nm)).isSome && (PySem.W.findIn K (.type "int") (dunderR nm)).isSome))
theorem binB_ok {K : PySem.W.Frag} {cl : Nat → Addr} {cs : List Nat} {nm : String} {g : Addr} {okc : Nat → Bool} (hc : ∀ c, okc c = true → c ∈ cs) (h : binB K cl cs nm g = true) : BinC K ⟨K, cl⟩ okc nm g := by
  obtain ⟨h1, h⟩ := and2 h
  obtain ⟨h2, h⟩ := and2 h
  obtain ⟨h3, h4⟩ := and2 h
  have a := fun c hk => and2 (List.all_eq_true.mp h1 c (hc c hk))
  refine ⟨fun c hk => bin1B_ok (a c hk).1, fun c c' hk hk' hne => ?_, h2, Option.isSome_iff_exists.mp h3, Option.isSome_iff_exists.mp h4, fun c hk => of_decide_eq_true (and2 (a c hk).2).1⟩
  have := List.all_eq_true.mp (and2 (a c hk).2).2 c' (hc c' hk')
  rcases Bool.or_eq_true_iff.mp this with q | q
  · exact absurd (of_decide_eq_true q) hne
  · exact of_decide_eq_true q
def clsIB (K : PySem.W.Frag) (C : Addr) : Bool := clsB K C && (decide (PySem.W.findIn K (.ref C) "__class__" = some (some (.builtin "object.__class__"))) && (decide (PySem.W.specialIn K (.builtin "object.__class__") "__get__" = some (some (.builtin "getset_descriptor.__get__"))) && (decide (PySem.W.takesIn K (.builtin "object.__class__") = some true) && decide (PySem.W.mroIn K C (.type "object") = some true))))
theorem clsIB_ok {K : PySem.W.Frag} {C : Addr} (h : clsIB K C = true) : ClsI K C := by
  obtain ⟨h1, h⟩ := and2 h
  obtain ⟨h2, h⟩ := and2 h
  obtain ⟨h3, h⟩ := and2 h
  obtain ⟨h4, h⟩ := and2 h
  exact ⟨clsB_ok h1, of_decide_eq_true h2, of_decide_eq_true h3, of_decide_eq_true h4, of_decide_eq_true h⟩
def isiB (K : PySem.W.Frag) (cl : Nat → Addr) (ts : List String) (cs : List Nat) (u : Value) (pb : String → Option Bool) (pc : Nat → Option Bool) : Bool :=
  ts.all (fun T => match pb T with
    | some k => decide (PySem.W.kitOne K (.type T) u = some k)
    | none => true) && cs.all fun c => match pc c with
    | some k => clsIB K (cl c) && decide (PySem.W.kitOne K (.ref (cl c)) u = some k)
    | none => true
theorem isiB_ok {K : PySem.W.Frag} {cl : Nat → Addr} {ts : List String} {cs : List Nat} {u : Value} {pb : String → Option Bool} {pc : Nat → Option Bool} (ht : ∀ T k, pb T = some k → T ∈ ts) (hc : ∀ c k, pc c = some k → c ∈ cs) (h : isiB K cl ts cs u pb pc = true) : IsiOk ⟨K, cl⟩ u pb pc := by
  obtain ⟨h1, h2⟩ := and2 h
  refine ⟨fun T k e => ?_, fun c k e => ?_⟩
  · have := List.all_eq_true.mp h1 T (ht T k e)
    rw [e] at this
    exact of_decide_eq_true this
  · have := List.all_eq_true.mp h2 c (hc c k e)
    rw [e] at this
    obtain ⟨a, b⟩ := and2 this
    exact ⟨clsIB_ok a, of_decide_eq_true b⟩
/-! ### constants -/
def gVal (K : PySem.W.Frag) (x : Str) : Value := match PySem.W.nsIn K mainGlobals x with
  | some (some u) => u
  | _ => .none
def valV : Value → V
  | .bool b => .bl b
  | .int i _ => .int i
  | .str x _ => .str x
  | .ref a => .ref a
  | _ => .non
mutual
def cstB (K : PySem.W.Frag) : D → Value → Bool
  | .non, .none => true
  | .bl b, .bool c => b == c
  | .int i, .int j _ => decide (i = j)
  | .str x, .str y _ => decide (s2 x = y)
  | .tup ds, .ref a => (match K.lookup a with
    | some ⟨.type c, _, .seq its _, _⟩ => decide (c = "tuple") && (decide (its.size ≤ sizeLine) && (!pairK ds && cstsB K ds its.toList))
    | _ => false)
  | _, _ => false
def cstsB (K : PySem.W.Frag) : List D → List Value → Bool
  | [], [] => true
  | d :: ds, u :: us => cstB K d u && cstsB K ds us
  | _, _ => false
end
mutual
theorem cstB_ok {K : PySem.W.Frag} {cl : Nat → Addr} : ∀ (d : D) (u : Value), cstB K d u = true → RelV (valV u) u ∧ ∀ m Z H, Rep ⟨K, cl⟩ m Z H d (valV u)
  | .non, u, h => by
    cases u <;> first | (simp [cstB] at h; done) | skip
    exact ⟨rfl, fun _ _ _ => .non⟩
  | .bl b, u, h => by
    cases u <;> first | (simp [cstB] at h; done) | skip
    simp only [cstB, beq_iff_eq] at h
    subst h
    exact ⟨rfl, fun _ _ _ => .bl _⟩
  | .int i, u, h => by
    cases u <;> first | (simp [cstB] at h; done) | skip
    simp only [cstB, decide_eq_true_eq] at h
    subst h
    exact ⟨⟨_, rfl⟩, fun _ _ _ => .int _⟩
  | .str x, u, h => by
    cases u <;> first | (simp [cstB] at h; done) | skip
    simp only [cstB, decide_eq_true_eq] at h
    subst h
    exact ⟨⟨_, rfl⟩, fun _ _ _ => .str _⟩
  | .tup ds, u, h => by
    cases u <;> first | (simp [cstB] at h; done) | skip
    rename_i a
    refine ⟨rfl, fun m Z H => ?_⟩
    unfold cstB at h
    split at h
    · rename_i c od its n osl e
      obtain ⟨h1, h⟩ := and2 h
      obtain ⟨h2, h⟩ := and2 h
      obtain ⟨h4, h3⟩ := and2 h
      obtain ⟨r1, r2⟩ := cstsB_ok (cl := cl) ds its.toList h3
      exact .gtup (vs := its.toList.map valV) ⟨_, its, n, e, congrArg Value.type (of_decide_eq_true h1), rfl, of_decide_eq_true h2, r1⟩ (r2 m Z H) (by simpa using h4)
    · cases h
  | .lst _, u, h => by cases u <;> simp [cstB] at h
  | .frl _, u, h => by cases u <;> simp [cstB] at h
  | .ftp _, u, h => by cases u <;> simp [cstB] at h
  | .dk _, u, h => by cases u <;> simp [cstB] at h
  | .dt _, u, h => by cases u <;> simp [cstB] at h
  | .ins _ _, u, h => by cases u <;> simp [cstB] at h
  | .exc _ _, u, h => by cases u <;> simp [cstB] at h
  | .obj _, u, h => by cases u <;> simp [cstB] at h
theorem cstsB_ok {K : PySem.W.Frag} {cl : Nat → Addr} : ∀ (ds : List D) (us : List Value), cstsB K ds us = true → Vals (us.map valV) us ∧ ∀ m Z H, Reps ⟨K, cl⟩ m Z H ds (us.map valV)
  | [], [], _ => ⟨.nil, fun _ _ _ => .nil⟩
  | [], _ :: _, h => by simp [cstsB] at h
  | _ :: _, [], h => by simp [cstsB] at h
  | d :: ds, u :: us, h => by
    unfold cstsB at h
    obtain ⟨h1, h2⟩ := and2 h
    obtain ⟨a, b⟩ := cstB_ok (cl := cl) d u h1
    obtain ⟨c, e⟩ := cstsB_ok (cl := cl) ds us h2
    exact ⟨.cons a c, fun m Z H => .cons (b m Z H) (e m Z H)⟩
end
def hasG (K : PySem.W.Frag) (x : Str) : Bool := match PySem.W.nsIn K mainGlobals x with
  | some (some _) => true
  | _ => false
theorem hasG_ok {K : PySem.W.Frag} {h : Heap} {mg : Str → Option Value} {x : Str} (X : K.In h) (G : h.Ns mainGlobals mg) (c : hasG K x = true) : mg x = some (gVal K x) := by
  unfold hasG at c
  unfold gVal
  split at c
  · rename_i u e
    exact PySem.W.mg_of X G e
  · cases c
def gloB (K : PySem.W.Frag) (x : Str) : Bool := decide (PySem.W.nsIn K mainGlobals x = some (some (.ref (He.ga K x))))
theorem gloB_ok {K : PySem.W.Frag} {h : Heap} {mg : Str → Option Value} {x : Str} (X : K.In h) (G : h.Ns mainGlobals mg) (c : gloB K x = true) : mg x = some (.ref (He.ga K x)) := PySem.W.mg_of X G (of_decide_eq_true c)
def freeB (K : PySem.W.Frag) (x : Str) : Bool := decide (PySem.W.nsIn K mainGlobals x = some none)
theorem freeB_ok {K : PySem.W.Frag} {h : Heap} {mg : Str → Option Value} {x : Str} (X : K.In h) (G : h.Ns mainGlobals mg) (c : freeB K x = true) : mg x = none := PySem.W.mg_none_of X G (of_decide_eq_true c)
end DL

set_option maxRecDepth 100000
set_option maxHeartbeats 2000000
/-! The value layer: own == and != with anything on the right. -/
namespace DL
open PySem L2
open PySem.W PyProof.Rows in
theorem own_ifNe {M : Model} {K : Frag} {x C : Addr} {ox : Obj} {od : Option Obj} {A : Around} {E : Value → Shared → Prop} {s : Shared} {args : List Value} {Q : Option Value → Shared → Prop} (X : K.In s.heap) (I : InstAt s.heap x ox C od) (hs : findIn K (.ref C) "__ne__" = some (some (.builtin "object.__ne__")))
    (h : wpAny M A (call (.builtin "object.__ne__") (.ref x :: args)) (fun v => Q (some v)) E s) : wpAny M A (callSpecialIfBound? (.ref x) "__ne__" args) Q E s := by
  simp only [callSpecialIfBound?, bindSpecialIfBound?]
  refine wpAny_holding (wpAny_bind (wpAny_bind (wpAny_bind (I.type.here ((looks_findIn X hs).here ?_)))))
  refine wpAny_bind (wpAny_askSetting (wpAny_ite ?_))
  have fin : wpAny M A (call (.builtin "object.__ne__") ([.ref x] ++ args) >>= fun v => pure (some v)) Q E s := wpAny_bind (wpAny_mono h (fun v s' h' => wpAny_pure h') fun _ _ h' => h')
  split
  · exact wpAny_bind (wpAny_of_eq (F.cmp_object.ne.bind _) (wpAny_pure (by exact fin)))
  · exact wpAny_tryCatch (wpAny_bind (wpAny_of_eq (F.cmp_object.ne.bind _) (wpAny_pure (by exact fin))))
open PySem.W PyProof.Rows in
theorem own_neEntry {prog : Program} {pw : World} {A : Around} {E : Value → Shared → Prop} {s : Shared} {K : Frag} {x C f : Addr} {ox : Obj} {od : Option Obj} {b : Value} {Q : Fin → Shared → Prop} (hu : A.units < cLine) (X : K.In s.heap) (I : InstAt s.heap x ox C od)
    (hs : findIn K (.ref C) "__eq__" = some (some (.ref f))) (hf : isFn K (.ref f) = true) (h : wpAny (model prog pw) A (call (.ref f) [.ref x, b]) (fun v s' => ∃ k, v = .bool k ∧ Q (.done (.ret (.bool (!k)))) s') E s) :
    wpAny (model prog pw) A (Builtin.«object.__ne__» ⟨[.ref x, b], []⟩) Q E s := by
  unfold Builtin.«object.__ne__»
  repeat (first
    | with_reducible refine wpAny_cRoomFor hu ?_
    | (refine wpAny_bind (m := callSpecialIfBound? (.ref x) (Str.ofString "__eq__") [b])
        (ifBound_K X I hs hf (wpAny_mono h (fun r s' hr => by
          obtain ⟨k, rfl, hq⟩ := hr
          repeat (first | exact hq | exact wpAny_pure hq | exact wpAny_truthy_bool hq | (refine wpAny_bind (m := truthy (.bool _)) (wpAny_truthy_bool ?_)) | wp_step)) fun _ _ e => e)))
    | wp_step)
open PySem.W PyProof.Rows in
theorem own_ne {prog : Program} {pw : World} {A : Around} {E : Value → Shared → Prop} {s : Shared} {K : Frag} {x C f : Addr} {ox : Obj} {od : Option Obj} {b tb : Value} {Q : Value → Shared → Prop} (hu : A.units + 1 < cLine) (X : K.In s.heap) (I : InstAt s.heap x ox C od) (hb : Looks (model prog pw) s.heap (typeOf b) tb) (hn : notFirst K C tb = true)
    (hm : mroIn K C (.type "object") = some true) (hs : findIn K (.ref C) "__eq__" = some (some (.ref f))) (hs' : findIn K (.ref C) "__ne__" = some (some (.builtin "object.__ne__"))) (hf : isFn K (.ref f) = true)
    (h : wpAny (model prog pw) A.in1 (call (.ref f) [.ref x, b]) (fun v s' => ∃ k, v = .bool k ∧ Q (.bool (!k)) s') E s) :
    wpAny (model prog pw) A (richCompare .NotEq (.ref x) b) Q E s := by
  have one : wpAny (model prog pw) A (tryCompare (.ref x) "__ne__" b) (fun r s' => ∃ v, r = some v ∧ Q v s') E s := by
    unfold tryCompare
    refine wpAny_bind (own_ifNe X I hs' (wpAny_call (codeAny_call_builtin F.cmp_object.ne.plain F.cmpEntry_ne (check_slot F.cmpKind_ne F.cmpSplit_ne (I.type.andThen (looks_mroIn X hm)) (F.cmpArgs_ne _ _)
      (own_neEntry (A := A.in1) hu X I hs hf (wpAny_mono h (fun v s' hv => ?_) fun _ _ e => e))))))
    obtain ⟨k, rfl, hq⟩ := hv
    exact ⟨k, rfl, wpAny_pure ⟨_, rfl, hq⟩⟩
  unfold richCompare
  simp only [oneThing_ref]
  refine wpAny_holding (wpAny_bind (wpAny_cRoomFor (Nat.lt_of_succ_lt hu) ?_))
  refine wpAny_bind (I.type.here (wpAny_bind (hb.here ?_)))
  split
  · rename_i q
    have e : subIn K tb (.ref C) = some false := by
      rcases Bool.or_eq_true_iff.mp hn with e | e
      · rw [beq_iff_eq.mp e] at q; simp at q
      · exact beq_iff_eq.mp e
    refine wpAny_bind ((looks_subIn X e).here ?_)
    simp only [Bool.false_eq_true, if_false]
    refine wpAny_bind (wpAny_mono one (fun r s' z => ?_) fun _ _ e => e)
    obtain ⟨v, rfl, hq⟩ := z
    exact wpAny_pure hq
  · refine wpAny_bind (wpAny_pure ?_)
    simp only [Bool.false_eq_true, if_false]
    refine wpAny_bind (wpAny_mono one (fun r s' z => ?_) fun _ _ e => e)
    obtain ⟨v, rfl, hq⟩ := z
    exact wpAny_pure hq
section
variable {w : Wd} {W : WX} {X : Cx}
/-- what an own == asks of the classes -/
structure CmpC (K : PySem.W.Frag) (w : Wd) (okc : Nat → Bool) (okt : String → Bool) (g : Addr) : Prop where
  ci : ∀ c, okc c = true → ClsI K (w.cl c)
  eq : ∀ c, okc c = true → PySem.W.findIn K (.ref (w.cl c)) "__eq__" = some (some (.ref g))
  ne : ∀ c, okc c = true → PySem.W.findIn K (.ref (w.cl c)) "__ne__" = some (some (.builtin "object.__ne__"))
  fn : PySem.W.isFn K (.ref g) = true
  nt : ∀ c T, okc c = true → okt T = true → PySem.W.notFirst K (w.cl c) (.type T) = true
  nc : ∀ c c', okc c = true → okc c' = true → PySem.W.notFirst K (w.cl c) (.ref (w.cl c')) = true
def rEqO (K : PySem.W.Frag) (C : Addr) (sp : Sp) : R2 := fun x y H Q => ∃ a dx fs t, x = .ref a ∧ H a = some (.ins C dx fs) ∧ TyX K H y t ∧ PySem.W.notFirst K C t = true ∧ sp [x, y] H Q E0
def rNeO (K : PySem.W.Frag) (C : Addr) (sp : Sp) : R2 := fun x y H Q => ∃ a dx fs t, x = .ref a ∧ H a = some (.ins C dx fs) ∧ TyX K H y t ∧ PySem.W.notFirst K C t = true ∧ sp [x, y] H (fun v H' => ∃ b, v = .bl b ∧ Q (.bl (!b)) H') E0
theorem op_eqO {k : Nat} {C g : Addr} {fd : FuncData} {ps : List Str} {sp : Sp} (hs : PySem.W.findIn X.K (.ref C) "__eq__" = some (some (.ref g))) (hf : PySem.W.isFn X.K (.ref g) = true) (F : FnOk X.prog X.w X.K X.mg X.base CX0 k g fd ps sp) (hr : Room k X.A) (hb : Binds X.K fd ps []) :
    OpR X (compareOp .Eq) (rEqO X.K C sp) := by
  intro pins s σ H x y v u Q I rx ry h
  obtain ⟨a, dx, fs, t, rfl, ha, ty, hn, q⟩ := h
  cases (show v = Value.ref a from rx)
  obtain ⟨od, J⟩ := ins_look I ha
  obtain ⟨m, fr⟩ := I.fr
  obtain ⟨P, Z, p, _⟩ := kit_of I ry ty
  have go : wpAny (model X.prog X.w) X.A (call (.ref g) [.ref a, u]) (PySem.W.CmpBack (EP X pins σ Q)) X.xe s :=
    wpAny_mono (run_in (vs := [.ref a, y]) F hr I.env0 hb I (.cons (show RelV (.ref a) (.ref a) from rfl) (.cons ry .nil)) q) (fun v s' ⟨z, H', I', rz, qz⟩ => back_of rz ⟨z, H', I', rz, qz⟩) fun _ _ e => e
  exact PySem.W.cmp_K (op := .Eq) hr.units0 fr I.ok.mod.kin J (Z.ty _ _ I.kIn p) hn hs hf go
theorem op_neO {k : Nat} {C g : Addr} {fd : FuncData} {ps : List Str} {sp : Sp} (hm : PySem.W.mroIn X.K C (.type "object") = some true) (hs : PySem.W.findIn X.K (.ref C) "__eq__" = some (some (.ref g))) (hs' : PySem.W.findIn X.K (.ref C) "__ne__" = some (some (.builtin "object.__ne__"))) (hf : PySem.W.isFn X.K (.ref g) = true)
    (F : FnOk X.prog X.w X.K X.mg X.base CX0 k g fd ps sp) (hr : Room (k + 1) X.A) (hb : Binds X.K fd ps []) : OpR X (compareOp .NotEq) (rNeO X.K C sp) := by
  intro pins s σ H x y v u Q I rx ry h
  obtain ⟨a, dx, fs, t, rfl, ha, ty, hn, q⟩ := h
  cases (show v = Value.ref a from rx)
  obtain ⟨od, J⟩ := ins_look I ha
  obtain ⟨P, Z, p, _⟩ := kit_of I ry ty
  have go : wpAny (model X.prog X.w) X.A.in1 (call (.ref g) [.ref a, u]) (fun v s' => ∃ k, v = .bool k ∧ EP X pins σ Q (.bool (!k)) s') X.xe s :=
    wpAny_mono (run_in (vs := [.ref a, y]) F hr.in1 I.env0.in1 hb I (.cons (show RelV (.ref a) (.ref a) from rfl) (.cons ry .nil)) q) (fun v s' ⟨z, H', I', rz, b, eb, qz⟩ => by
      subst eb
      cases (show v = Value.bool b from rz)
      exact ⟨b, rfl, .bl (!b), H', I', rfl, qz⟩) fun _ _ e => e
  exact own_ne (units_of hr) I.kIn J (Z.ty _ _ I.kIn p) hn hm hs hs' hf go
/-- a == b, a != b by the own def F of the left -/
def okD (okc : Nat → Bool) (okt : String → Bool) (d : D) : Bool := match d with
  | .ins c _ => okc c
  | d => match tyD d with
    | some T => okt T
    | none => false
theorem okD_ty {K : PySem.W.Frag} {cl : Nat → Addr} {okc : Nat → Bool} {okt : String → Bool} {g : Addr} (cc : CmpC K w okc okt g) (hK : K = w.K) {m : List Addr} {Z : Addr → Prop} {H : Hp} {d : D} {v : V} {c : Nat} (hc : okc c = true) (h : Look w m Z H d v) (e : okD okc okt d = true) :
    ∃ t, TyX K H v t ∧ PySem.W.notFirst K (w.cl c) t = true := by
  subst hK
  cases d with
  | ins c' fs =>
    obtain ⟨a, dx, gs, rfl, hi, rn⟩ := h.ins
    have ci := cc.ci c' e
    exact ⟨_, .base (.ins hi ci.cl ci.ha ci.hn ci.ht ci.hm), cc.nc c c' hc e⟩
  | _ =>
    unfold okD at e
    dsimp only at e
    split at e
    · rename_i T eT
      exact ⟨_, tyD_ok h eT, cc.nt c T hc e⟩
    · cases e
def sEqO (F : SF) (okc : Nat → Bool) (okt : String → Bool) (f u : SE) : SE := fun ρ S => (f ρ S).bind fun a S1 => (u ρ S1).bind fun b S2 => match a.1 with
  | .ins c _ => if okc c = true ∧ okD okc okt (view S2 b.1) = true then (match F [(a.1, lend a.2), (b.1, lend b.2)] S2 with
      | .ok r S3 => .ok r S3
      | _ => .bad) else .bad
  | _ => .bad
def sNeO (F : SF) (okc : Nat → Bool) (okt : String → Bool) (f u : SE) : SE := fun ρ S => (f ρ S).bind fun a S1 => (u ρ S1).bind fun b S2 => match a.1 with
  | .ins c _ => if okc c = true ∧ okD okc okt (view S2 b.1) = true then (match F [(a.1, lend a.2), (b.1, lend b.2)] S2 with
      | .ok (.bl k, _) S3 => .ok (.bl (!k), .sh) S3
      | _ => .bad) else .bad
  | _ => .bad
theorem ent_not {np : Nat} {F : SF} {g : G} {ρ : Loc} {S : Store} {σ : L2.St} {H : Hp} {r q : RV} {v u : V} {Q : VK} {E : XK} (rel : Rel w g ρ S σ H) (h : Arg w g.m g.Z H r v) (h' : Arg w g.m g.Z H q u) (hn : np = 2)
    (post : PostE w W ρ σ Q g H (match F [(r.1, lend r.2), (q.1, lend q.2)] S with
      | .ok (.bl k, _) S3 => .ok (.bl (!k), .sh) S3
      | _ => .bad)) : spF w np F [v, u] H (fun v H' => ∃ b, v = .bl b ∧ Q (.bl (!b)) H') E := by
  refine ent_two (W := W) (ρ := ρ) (σ := σ) rel h h' hn ?_
  cases e : F [(r.1, lend r.2), (q.1, lend q.2)] S with
  | exc x S2 => rw [e] at post; exact post.elim
  | bad => rw [e] at post; exact post.elim
  | ok q S2 =>
    rw [e] at post
    obtain ⟨d, fl⟩ := q
    cases d with
    | bl b =>
      intro v' H' k
      obtain ⟨m', s', rel', res⟩ := k
      have l : Look w m' g.Z H' (.bl b) v' := (Res.arg res).read.look
      exact ⟨b, l.bl, post _ _ ⟨m', s', rel', .bl (!b)⟩⟩
    | _ => exact post.elim
theorem rd_eqO {np : Nat} {g0 : Addr} {F : SF} {okc : Nat → Bool} {okt : String → Bool} {f u : SE} {σ : L2.St} {H : Hp} {Q : VK} (hn : np = 2) (hK : X.K = w.K) (cc : CmpC X.K w okc okt g0) (h : rdE w W (sEqO F okc okt f u) σ H Q) :
    tOp (fun x y H Q => ∃ c, okc c = true ∧ rEqO X.K (w.cl c) (spF w np F) x y H Q) (rdE w W f) (rdE w W u) σ H Q := by
  obtain ⟨gh, ρ, S, rel, h⟩ := h
  refine rdE_imp (bindE rel h goodE) fun x H1 ⟨r1, S1, m1, s1, rel1, res1, _, h1⟩ => ?_
  refine rdE_imp (bindE rel1 h1 goodE) fun y H2 ⟨r2, S2, m2, s2, rel2, res2, _, h2⟩ => ?_
  have a1 := s2.arg res1.arg
  obtain ⟨d1, f1⟩ := r1
  cases d1 with
  | ins c fs =>
    dsimp only at h2
    split at h2
    rotate_left
    · exact h2.elim
    rename_i oc
    obtain ⟨p, dx, gs, rfl, hi, rn⟩ := (Read.look a1.read).ins
    obtain ⟨t, ty, nf⟩ := okD_ty (cl := w.cl) cc hK oc.1 (look_view rel2 res2.arg) oc.2
    exact ⟨c, oc.1, p, dx, gs, t, rfl, hi, ty, nf, ent_two (r := (.ins c fs, f1)) rel2 a1 res2.arg hn h2⟩
  | _ => exact h2.elim
theorem rd_neO {np : Nat} {g0 : Addr} {F : SF} {okc : Nat → Bool} {okt : String → Bool} {f u : SE} {σ : L2.St} {H : Hp} {Q : VK} (hn : np = 2) (hK : X.K = w.K) (cc : CmpC X.K w okc okt g0) (h : rdE w W (sNeO F okc okt f u) σ H Q) :
    tOp (fun x y H Q => ∃ c, okc c = true ∧ rNeO X.K (w.cl c) (spF w np F) x y H Q) (rdE w W f) (rdE w W u) σ H Q := by
  obtain ⟨gh, ρ, S, rel, h⟩ := h
  refine rdE_imp (bindE rel h goodE) fun x H1 ⟨r1, S1, m1, s1, rel1, res1, _, h1⟩ => ?_
  refine rdE_imp (bindE rel1 h1 goodE) fun y H2 ⟨r2, S2, m2, s2, rel2, res2, _, h2⟩ => ?_
  have a1 := s2.arg res1.arg
  obtain ⟨d1, f1⟩ := r1
  cases d1 with
  | ins c fs =>
    dsimp only at h2
    split at h2
    rotate_left
    · exact h2.elim
    rename_i oc
    obtain ⟨p, dx, gs, rfl, hi, rn⟩ := (Read.look a1.read).ins
    obtain ⟨t, ty, nf⟩ := okD_ty (cl := w.cl) cc hK oc.1 (look_view rel2 res2.arg) oc.2
    exact ⟨c, oc.1, p, dx, gs, t, rfl, hi, ty, nf, ent_not (r := (.ins c fs, f1)) rel2 a1 res2.arg hn h2⟩
  | _ => exact h2.elim
section
variable {k np : Nat} {g : Addr} {fd : FuncData} {ps : List Str} {F : SF} {okc : Nat → Bool} {okt : String → Bool} {a b : Expr} {f u : SE} {pos : Pos}
theorem op_eqC (cc : CmpC X.K w okc okt g) (G : FnOk X.prog X.w X.K X.mg X.base CX0 k g fd ps (spF w np F)) (hr : Room (k + 1) X.A) (hb : Binds X.K fd ps []) :
    OpR X (compareOp .Eq) (fun x y H Q => ∃ c, okc c = true ∧ rEqO X.K (w.cl c) (spF w np F) x y H Q) := OpR.any fun c hc => op_eqO (cc.eq c hc) cc.fn G (hr.mono (by omega)) hb
theorem op_neC (cc : CmpC X.K w okc okt g) (G : FnOk X.prog X.w X.K X.mg X.base CX0 k g fd ps (spF w np F)) (hr : Room (k + 1) X.A) (hb : Binds X.K fd ps []) :
    OpR X (compareOp .NotEq) (fun x y H Q => ∃ c, okc c = true ∧ rNeO X.K (w.cl c) (spF w np F) x y H Q) := OpR.any fun c hc => op_neO (cc.ci c hc).hm (cc.eq c hc) (cc.ne c hc) cc.fn G hr hb
theorem e_eqO (hK : X.K = w.K) (hn : np = 2) (cc : CmpC X.K w okc okt g) (G : FnOk X.prog X.w X.K X.mg X.base CX0 k g fd ps (spF w np F)) (hr : Room (k + 1) X.A) (hb : Binds X.K fd ps [])
    (ha : PE X a (rdE w W f)) (hb' : PE X b (rdE w W u)) (hm : behindInMarks .Eq b = false := by first | exact nomark _ | with_unfolding_all rfl) : PE X (.Compare a [.Eq] [b] pos) (rdE w W (sEqO F okc okt f u)) :=
  PE.imp (pe_cmpR (op_eqC cc G hr hb) ha hb' hm) fun _ _ _ h => rd_eqO hn hK cc h
theorem e_neO (hK : X.K = w.K) (hn : np = 2) (cc : CmpC X.K w okc okt g) (G : FnOk X.prog X.w X.K X.mg X.base CX0 k g fd ps (spF w np F)) (hr : Room (k + 1) X.A) (hb : Binds X.K fd ps [])
    (ha : PE X a (rdE w W f)) (hb' : PE X b (rdE w W u)) (hm : behindInMarks .NotEq b = false := by first | exact nomark _ | with_unfolding_all rfl) : PE X (.Compare a [.NotEq] [b] pos) (rdE w W (sNeO F okc okt f u)) :=
  PE.imp (pe_cmpR (op_neC cc G hr hb) ha hb' hm) fun _ _ _ h => rd_neO hn hK cc h
theorem t_eqO (hK : X.K = w.K) (hn : np = 2) (cc : CmpC X.K w okc okt g) (G : FnOk X.prog X.w X.K X.mg X.base CX0 k g fd ps (spF w np F)) (hr : Room (k + 1) X.A) (hb : Binds X.K fd ps [])
    (ha : PE X a (rdE w W f)) (hb' : PE X b (rdE w W u)) (hm : behindInMarks .Eq b = false := by first | exact nomark _ | with_unfolding_all rfl) : PT X (.Compare a [.Eq] [b] pos) (rdT w W (sT (sEqO F okc okt f u))) :=
  PT.imp (pt_cmpR (op_eqC cc G hr hb) ha hb' hm) fun _ _ _ h => rd_eqO hn hK cc (rdT_sT h)
theorem t_neO (hK : X.K = w.K) (hn : np = 2) (cc : CmpC X.K w okc okt g) (G : FnOk X.prog X.w X.K X.mg X.base CX0 k g fd ps (spF w np F)) (hr : Room (k + 1) X.A) (hb : Binds X.K fd ps [])
    (ha : PE X a (rdE w W f)) (hb' : PE X b (rdE w W u)) (hm : behindInMarks .NotEq b = false := by first | exact nomark _ | with_unfolding_all rfl) : PT X (.Compare a [.NotEq] [b] pos) (rdT w W (sT (sNeO F okc okt f u))) :=
  PT.imp (pt_cmpR (op_neC cc G hr hb) ha hb' hm) fun _ _ _ h => rd_neO hn hK cc (rdT_sT h)
end
/-! ### asked by truths -/
def cmpCB (K : PySem.W.Frag) (cl : Nat → Addr) (cs : List Nat) (ts : List String) (g : Addr) : Bool := PySem.W.isFn K (.ref g) && cs.all fun c => clsIB K (cl c) && (decide (PySem.W.findIn K (.ref (cl c)) "__eq__" = some (some (.ref g))) && (decide (PySem.W.findIn K (.ref (cl c)) "__ne__" = some (some (.builtin "object.__ne__"))) &&
  (ts.all (fun T => PySem.W.notFirst K (cl c) (.type T)) && cs.all fun c' => PySem.W.notFirst K (cl c) (.ref (cl c')))))
theorem cmpCB_ok {K : PySem.W.Frag} {cl : Nat → Addr} {cs : List Nat} {ts : List String} {g : Addr} {okc : Nat → Bool} {okt : String → Bool} (hc : ∀ c, okc c = true → c ∈ cs) (ht : ∀ T, okt T = true → T ∈ ts) (h : cmpCB K cl cs ts g = true) : CmpC K ⟨K, cl⟩ okc okt g := by
  obtain ⟨h1, h2⟩ := and2 h
  have a := fun c hk => and2 (List.all_eq_true.mp h2 c (hc c hk))
  refine ⟨fun c hk => clsIB_ok (a c hk).1, fun c hk => of_decide_eq_true (and2 (a c hk).2).1, fun c hk => of_decide_eq_true (and2 (and2 (a c hk).2).2).1, h1, fun c T hk hT => ?_, fun c c' hk hk' => ?_⟩
  · exact List.all_eq_true.mp (and2 (and2 (and2 (a c hk).2).2).2).1 T (ht T hT)
  · exact List.all_eq_true.mp (and2 (and2 (and2 (a c hk).2).2).2).2 c' (hc c' hk')
end
end DL

set_option maxRecDepth 100000
set_option maxHeartbeats 2000000
/-! The value layer: C.m(..), m a staticmethod of the class C. -/
namespace DL
open PySem L2
/-- C.m is a staticmethod: its record at p, its def at g -/
structure SMet (K : PySem.W.Frag) (C : Addr) (mc : Value) (m : Str) (p g : Addr) : Prop where
  cr : ClX.CRead K C mc
  at_ : PySem.W.findCls K (.ref C) mc m = some (.get (.builtin "staticmethod.__get__") (.ref p) .none (.ref C))
  rc : ∃ rest, PySem.W.recIn K p "staticmethod" = some (.ref g :: rest)
  kp : PySem.W.keepIn K (.ref g) = true
section
variable {w : Wd} {W : WX} {X : Cx} {pins : List (Addr × Obj)} {σ : L2.St} {H : Hp} {s : Shared}
theorem getmethsm_ok {A : Around} {E : Value → Shared → Prop} {C p g : Addr} {mc : Value} {m : Str} {pl : Sem Bool} {Q : Value × List Value → Shared → Prop} (I : Inv X pins σ H s) (k : SMet X.K C mc m p g)
    (h : ∀ s', Inv X pins σ H s' → Q (.ref g, []) s') : wpAny (model X.prog X.w) A (getMethod (.ref C) m pl) Q E s := by
  obtain ⟨rest, hp⟩ := k.rc
  refine PySem.W.method_cls I.kIn k.cr.ga ?_
  refine PySem.W.cls_bind I.kIn k.cr.rd k.at_ ?_
  refine wpAny_call (PySem.W.sm_get (s := { s with toks := s.toks + 1 }) I.kIn hp (PySem.W.handed_on rfl ?_))
  exact h _ (I.tok _)
variable {k : Nat} {C p g : Addr} {mc : Value} {sp : Sp} {E : XK} {o e : Expr} {es : List Expr} {m : Str} {pos apos : Pos} {t : TA} {pl : Sem Bool} {fd : FuncData} {ps : List Str} {ds : List Value} {dvs : List V}
theorem pe_smeth (he : PE X o (tC (.ref C))) (c : SMet X.K C mc m p g) (F : FnOk X.prog X.w X.K X.mg X.base CX0 k g fd ps sp) (hr : Room k X.A) (hb : Binds X.K fd ps ds) (hd : Vals dvs ds) (hx : Passes CX0 X E) (ha : PA X (e :: es) t)
    (hst : starEach (e :: es) X.env = (false, eval e X.env) :: starEach es X.env) (hpl : (backTo pos (starEach es X.env)).any (·.1) = false)
    (ht : eval (.Call (.Attribute o m apos) (e :: es) [] pos) X.env = (do
      let ov ← eval o X.env
      standAt apos.atName
      let (f, first) ← holding [ov] (getMethod ov m pl)
      callWith pos f first (backTo pos (starEach (e :: es) X.env)) (backToKw pos (keywordEach [] X.env)))) :
    PE X (.Call (.Attribute o m apos) (e :: es) [] pos) (tCall sp dvs E t) := by
  refine ⟨fun pins s σ H Q I h => ?_⟩
  refine PySem.W.methodCall_KW (pl := pl) (thn (he.run pins s σ H (fun x H1 => x = .ref C ∧ tCall sp dvs E t σ H1 Q) I ⟨rfl, h⟩) fun u s1 ⟨x, H1, I1, rx, ex, q⟩ => ?_) ht
  subst ex
  obtain rfl : u = Value.ref C := rx
  refine getmethsm_ok I1 c fun s2 I2 => ?_
  refine PySem.W.callWith_K (h₀ := X.base) (first := []) I2.ok.mod.kin c.kp (thn (ha.run pos pins s2 σ H1 _ I2 q) fun us s3 ⟨vs, H2, I3, r, q⟩ => ⟨I3.kIn, ?_⟩) hst hpl
  exact run_fn F hr hb hd hx I3 r q
/-- C.m(..) -/
theorem e_smeth {np : Nat} {F : SF} {drs : List RV} {fs : SA} (he : PE X o (tC (.ref C))) (c : SMet X.K C mc m p g) (G : FnOk X.prog X.w X.K X.mg X.base CX0 k g fd ps (spF w np F)) (hr : Room k X.A) (hb : Binds X.K fd ps ds) (hd : Vals dvs ds) (hdr : DefOk w drs dvs)
    (hst : starEach (e :: es) X.env = (false, eval e X.env) :: starEach es X.env) (hpl : (backTo pos (starEach es X.env)).any (·.1) = false)
    (ht : eval (.Call (.Attribute o m apos) (e :: es) [] pos) X.env = (do
      let ov ← eval o X.env
      standAt apos.atName
      let (f, first) ← holding [ov] (getMethod ov m pl)
      callWith pos f first (backTo pos (starEach (e :: es) X.env)) (backToKw pos (keywordEach [] X.env)))) (ha : PA X (e :: es) (rdA w W fs)) :
    PE X (.Call (.Attribute o m apos) (e :: es) [] pos) (rdE w W (sCall np F drs fs)) :=
  PE.imp (pe_smeth he c G hr hb hd pass0 ha hst hpl ht) fun _ _ _ h => rd_call hdr h
end
/-! ### asked by truths -/
def isSM (p C : Addr) : Option PySem.W.CFound → Bool
  | some (.get (.builtin b) (.ref q) .none (.ref D)) => decide (b = "staticmethod.__get__") && (decide (q = p) && decide (D = C))
  | _ => false
theorem isSM_ok {p C : Addr} {o : Option PySem.W.CFound} (h : isSM p C o = true) : o = some (.get (.builtin "staticmethod.__get__") (.ref p) .none (.ref C)) := by
  unfold isSM at h
  split at h
  · obtain ⟨h1, h⟩ := and2 h
    obtain ⟨h2, h3⟩ := and2 h
    rw [of_decide_eq_true h1, of_decide_eq_true h2, of_decide_eq_true h3]
  · cases h
def smB (K : PySem.W.Frag) (C : Addr) (mc : Value) (m : Str) (p g : Addr) : Bool := PySem.W.readsIn K C mc && (decide (PySem.W.specialIn K (.ref C) "__getattribute__" = some (some (.builtin "type.__getattribute__"))) && (isSM p C (PySem.W.findCls K (.ref C) mc m) && (PySem.W.keepIn K (.ref g) && match PySem.W.recIn K p "staticmethod" with
  | some (.ref q :: _) => decide (q = g)
  | _ => false)))
theorem smB_ok {K : PySem.W.Frag} {C : Addr} {mc : Value} {m : Str} {p g : Addr} (h : smB K C mc m p g = true) : SMet K C mc m p g := by
  obtain ⟨h1, h⟩ := and2 h
  obtain ⟨h2, h⟩ := and2 h
  obtain ⟨h3, h⟩ := and2 h
  obtain ⟨h4, h⟩ := and2 h
  refine ⟨⟨h1, of_decide_eq_true h2⟩, isSM_ok h3, ?_, h4⟩
  split at h
  · rename_i q r e
    exact ⟨r, by rw [e, of_decide_eq_true h]⟩
  · cases h
def smOf (K : PySem.W.Frag) (p : Addr) : Addr := match PySem.W.recIn K p "staticmethod" with
  | some (.ref g :: _) => g
  | _ => 0
end DL

set_option maxRecDepth 100000
set_option maxHeartbeats 2000000
/-! The value layer: a list turned round. -/
namespace DL
open PySem L2
section
variable {w : Wd} {W : WX} {X : Cx}
def oRev (a : RV) (S : Store) : Option RV := match view S a.1 with
  | .lst ds => some (.lst ds.reverse, .own)
  | _ => none
theorem Reps.reverse {m : List Addr} {Z : Addr → Prop} {H : Hp} : ∀ {ds : List D} {vs : List V}, Reps w m Z H ds vs → Reps w m Z H ds.reverse vs.reverse
  | _, _, .nil => .nil
  | _, _, .cons a r => by
    rw [List.reverse_cons, List.reverse_cons]
    exact (Reps.reverse r).app (.cons a .nil)
theorem e_revL {e : Expr} {f : SE} {k : Nat} {p1 p2 p3 pos : Pos} (hK : X.K = w.K) (he : PE X e (rdE w W f)) : PE X (.Subscript e (.Slice none none (some (.UnaryOp .USub (.Constant (.int 1) k p1) p2)) p3) pos) (rdE w W (sOp1 oRev f)) := by
  refine PE.imp (L2.pe_revL he) fun σ H Q ⟨g, ρ, S, rel, h⟩ => ?_
  refine rdE_imp (bindE rel h goodE) fun v H1 ⟨r1, S1, m1, s1, rel1, res1, _, h1⟩ => ?_
  obtain ⟨q, e1, h4⟩ := post_opt h1
  have lk := look_view rel1 res1.arg
  unfold oRev at e1
  split at e1
  · rename_i ds ea
    rw [ea] at lk
    cases e1
    obtain ⟨p, vs, rfl, hp, rp⟩ := lk.lst
    exact ⟨p, vs, rfl, .of hp, fun t ht => h4 _ _ (.lst rel1 (Reps.reverse rp) ht)⟩
  · cases e1
/-- {} -/
def sDict0 : SE := fun _ S => .ok (.dk [], .own) S
theorem e_dict0 {pos : Pos} : PE X (.Dict [] [] pos) (rdE w W sDict0) := PE.imp pe_dnewK fun σ H Q ⟨g, ρ, S, rel, h⟩ p hp => h _ _ (.box rel hp (.dk upd_same .nil))
end
end DL

set_option maxRecDepth 100000
set_option maxHeartbeats 2000000
/-! The value layer: defs that may raise. -/
namespace DL
open PySem L2
section
variable {w : Wd} {W : WX} {X : Cx}
/-- what an exception that leaves a def leaves behind -/
def XCOk (w : Wd) (g : G) (H : Hp) (x : D) (S : Store) (cls : Value) (dd : Option Addr) (H' : Hp) : Prop := ∃ g', StepS g H g' H' ∧ Stored w g'.m g'.Z H' S ∧ g'.m.Nodup ∧ (∀ b ∈ g'.m, ¬ g'.Z b) ∧ (∀ b, (b ∈ g'.m ∨ g'.Z b) → H' b ≠ none) ∧ RepX w g'.m g'.Z H' x cls dd
def PostY (w : Wd) (Q : VK) (E : XK) (g : G) (H : Hp) (t : R RV) : Prop := match t with
  | .ok r S' => ∀ v H', RtOk w g H r S' v H' → Q v H'
  | .exc x S' => ∀ cls dd H', XCOk w g H x S' cls dd H' → E cls dd H'
  | .bad => False
/-- THE PROMISE of a def that is the function F of np arguments, F may raise -/
def spY (w : Wd) (np : Nat) (F : SF) : Sp := fun vs H Q E => ∃ g rs S, Ent w g H S ∧ Args w g.m g.Z H rs vs ∧ rs.length = np ∧ PostY w Q E g H (F rs S)
def bodyY (n : Nat) (b : SS) : SF := fun rs S => match b (entry n rs) S with
  | .rt r S' => .ok r S'
  | .nx _ S' => .ok (.non, .sh) S'
  | .ex x _ S' => .exc x S'
  | _ => .bad
theorem SXOk.xc {g : G} {H H' : Hp} {x : D} {ρ : Loc} {S : Store} {cls : Value} {dd : Option Addr} {σ : L2.St} (h : SXOk w g H x ρ S cls dd σ H') : XCOk w g H x S cls dd H' :=
  let ⟨g', s, r, q⟩ := h; ⟨g', s, r.sto, r.nd, r.sep, r.trk, q⟩
theorem RepX.mono {m m' : List Addr} {Z Z' : Addr → Prop} {H H' : Hp} {x : D} {cls : Value} {dd : Option Addr} (M : Mono m Z H m' Z' H') (h : RepX w m Z H x cls dd) : RepX w m' Z' H' x cls dd := by
  obtain ⟨c, fs, e1, e2, e3⟩ := h
  refine ⟨c, fs, e1, e2, e3.imp id fun ⟨a, gs, q1, q0, q2, q3⟩ => ⟨a, gs, q1, q0, M.xd _ _ q2, q3.mono M⟩⟩
/-- the caller's state behind a callee's exception -/
theorem XCOk.xok {g gc : G} {ρ : Loc} {S S' : Store} {σ : L2.St} {H H2 H' : Hp} {x : D} {cls : Value} {dd : Option Addr} (rel : Rel w g ρ S σ H) (s0 : StepE g.m H g.m H2) (hm : gc.m = g.m) (hz : ∀ b ∈ gc.zo, H b = none) (hb : ∀ b, b ∈ gc.zb ↔ g.Z b)
    (h : XCOk w gc H2 x S' cls dd H') : XOk w g H ρ σ x S' cls dd H' := by
  obtain ⟨g', s, sto, nd, sep, trk, rx⟩ := h
  have free : ∀ b ∈ gc.zo, ∀ o, H b ≠ some o := fun b q o e => by rw [hz b q] at e; cases e
  have ms : ∃ ex, g'.m = g.m ++ ex ∧ ∀ b ∈ ex, H b = none := by
    obtain ⟨ex, e, hx⟩ := s.ms
    exact ⟨ex, by rw [e, hm], fun b q => s0.grow b (hx b q)⟩
  have se : StepE g.m H g'.m H' := by
    refine ⟨fun b o e q t => ?_, fun b e => s0.grow b (s.grow b e), ms⟩
    have e2 := s0.keep b o e q t
    refine s.keep b o e2 (q.imp (fun n => ⟨by rw [hm]; exact n, fun z => free b z o e⟩) id) t
  have zb : ∀ b, b ∈ g'.zb ↔ g.Z b := fun b => by rw [s.zb]; exact hb b
  have lz : ∀ b, g.Z b → g'.Z b ∨ H' b = none := fun b q => .inl (.inr ((zb b).mpr q))
  exact ⟨g'.m, se, rel.step se (sto.less lz) nd fun b q => trk b (.inl q), rx.mono (mono_z lz)⟩
theorem XCOk.call {g : G} {ρ : Loc} {S S' : Store} {σ : L2.St} {H H' : Hp} {x : D} {cls : Value} {dd : Option Addr} (rel : Rel w g ρ S σ H) (h : XCOk w g.call H x S' cls dd H') : XOk w g H ρ σ x S' cls dd H' :=
  XCOk.xok (g := g) (gc := g.call) rel (.refl _ _) rfl (fun b q => by cases q) (fun b => by show b ∈ g.zo ++ g.zb ↔ _; simp [G.Z]) h

/-- a def whose promise holds where no repr waits; what it raises reaches the caller -/
structure FnY (P : Program) (pw : World) (K : PySem.W.Frag) (mg : Str → Option Value) (base : Heap) (k : Nat) (f : Addr) (fd : FuncData) (ps : List Str) (sp : Sp) : Prop where
  len : ∀ vs H Q E, sp vs H Q E → vs.length = ps.length
  run : ∀ (A : Around) (outer : List Env) (s : Shared) (H : Hp) (args : PySem.Args) (us : List Value) (vs : List V) (Q : VK) (E : XK), A.guards = some [] → Room k A → Env0 P pw K mg base A outer s H → BindsTo s fd args (ps.zip us) → Vals vs us → sp vs H Q E →
    codeAny (model P pw) A (.call (.ref f) args) (CR (L2.CX P pw) outer P pw H s Q E) s
/-- a def's own wish about exceptions -/
abbrev WD (E : XK) : WX := fun cls dd _ H => E cls dd H
section
variable {P : Program} {pw : World} {K : PySem.W.Frag} {mg : Str → Option Value} {base : Heap} {x qual : Str} {st : Stmt} {dvs : List V} {f : Addr} {fd : FuncData} {N ps : List Str} {k : Nat} {sp : Sp}
theorem fnY_of (F : FunX K x qual st dvs f fd) (Sc : FnScope N ps (defScope st)) (len : ∀ vs H Q E, sp vs H Q E → vs.length = ps.length)
    (hbody : ∀ (cdv : Value) (A : Around) (outer : List Env) (s : Shared) (H : Hp) (vs : List V) (Q : VK) (E : XK), A.guards = some [] → Room k (A.deeper (PyProof.Rows.envOfC qual (defScope st) s.heap.objs.size f cdv)) → sp vs H Q E →
      ∃ t, PSs (cxOf (L2.CX P pw) P pw K mg base N qual (defScope st) f cdv A outer s H E) (defBody st) t ∧ t { nx := fun _ H' => Q .non H', rt := Q } (L2.start N vs) H) : FnY P pw K mg base (k + 1) f fd ps sp := by
  obtain ⟨oc, od, dV, kV, doc, pm, an, cdv, ct, osl, rfl, lk, hcd, _, _⟩ := F.ex
  refine ⟨len, fun A outer s H args us vs Q E hg hr e0 bind rel said => ?_⟩
  have many := len vs H Q E said
  have inK : K.In s.heap := e0.mod.kin.keeps fun b o q => (e0.bs b o q).1
  have room : s.heap.NoLimit := e0.mod.nolimit.keeps fun b o q => (e0.bs b o q).1
  refine codeAny_call_function hr.depth (inK _ _ lk) rfl Sc.co Sc.gen rfl (PySem.W.codeRec_of inK hcd) (bind _ _ _ _ ?_)
  refine wpAny_newFunctionEnv_cells Sc.kind (fun ⟨n, v⟩ hy => (Sc.par n (List.of_mem_zip hy).1).imp id fun q => ⟨q, PySem.W.cellsFrom_some _ _ _ (.inl q)⟩) fun env he s1 new => ?_
  subst he
  refine ⟨room.keeps new.toInCall.keep, codeAny_func ?_⟩
  obtain ⟨t, run, want⟩ := hbody cdv A outer s H vs Q E hg (hr.deeper _) said
  have inv : Inv (cxOf (L2.CX P pw) P pw K mg base N qual (defScope st) f cdv A outer s H E) [] (L2.start N vs) H s1 := inv_start Sc hr.hd e0 many rel new
  refine wpAny_mono (run.run [] s1 (L2.start N vs) H _ inv want) (fun fl s2 hs => ?_) fun _ _ q => q
  cases fl with
  | ret u => obtain ⟨v, σ', H', J, rv, q⟩ := hs; exact ⟨v, H', J.os, J.bare, J.base, J.hok, rv, q⟩
  | next => obtain ⟨σ', H', J, q⟩ := hs; exact ⟨V.non, H', J.os, J.bare, J.base, J.hok, rfl, q⟩
  | brk => obtain ⟨_, _, _, q⟩ := hs; exact q.elim
  | cont => obtain ⟨_, _, _, q⟩ := hs; exact q.elim
/-- a def whose body is b -/
theorem fnY_ok {b : SS} (F : FunX K x qual st dvs f fd) (Sc : FnScope N ps (defScope st))
    (hb : ∀ (cdv : Value) (A : Around) (outer : List Env) (s : Shared) (H : Hp) (E : XK), A.guards = some [] → Room k (A.deeper (PyProof.Rows.envOfC qual (defScope st) s.heap.objs.size f cdv)) → PSs (cxOf (L2.CX P pw) P pw K mg base N qual (defScope st) f cdv A outer s H E) (defBody st) (rdS w (WD E) b)) :
    FnY P pw K mg base (k + 1) f fd ps (spY w ps.length (bodyY N.length b)) := by
  refine fnY_of F Sc (fun vs H Q E ⟨g, rs, S, _, a, hl, _⟩ => a.length ▸ hl) fun cdv A outer s H vs Q E hg hr ⟨g, rs, S0, en, a, hl, post⟩ => ⟨_, hb cdv A outer s H E hg hr, g, _, S0, en.rel a, ?_⟩
  unfold bodyY at post
  cases ev : b (entry N.length rs) S0 with
  | nx ρ S' => rw [ev] at post; exact fun σ' H' ⟨g', s', r'⟩ => post .non H' ⟨g', s', r'.sto, r'.nd, r'.sep, r'.trk, r'.sez, .non⟩
  | rt r S' => rw [ev] at post; exact post
  | bk ρ S' => rw [ev] at post; exact post.elim
  | ct ρ S' => rw [ev] at post; exact post.elim
  | ex d ρ S' => rw [ev] at post; exact fun cls dd σ' H' h => post cls dd H' h.xc
  | bad => rw [ev] at post; exact post.elim
end
/-! ### a call -/
def sCallY (np : Nat) (F : SF) (drs : List RV) (fs : SA) : SE := fun ρ S => (fs ρ S).bind fun rs S1 => if (rs ++ drs).length = np then F (rs ++ drs) S1 else .bad
/-- the exceptions that are wanted, the slots being what they are -/
abbrev WA (W : WX) (σ : L2.St) : XK := fun cls dd H => W cls dd σ H
theorem rd_callY {np : Nat} {F : SF} {drs : List RV} {dvs : List V} {fs : SA} {σ : L2.St} {H : Hp} {Q : VK} (hd : DefOk w drs dvs) (h : rdE w W (sCallY np F drs fs) σ H Q) : rdA w W fs σ H fun vs H1 => spY w np F (vs ++ dvs) H1 Q (WA W σ) := by
  obtain ⟨g, ρ, S, rel, h⟩ := h
  refine rdA_imp (bindA rel h goodE) fun vs H1 ⟨rs, S1, m1, s1, rel1, as, _, h1⟩ => ?_
  split at h1
  rotate_left
  · exact h1.elim
  rename_i hl
  refine ⟨(g.at m1).call, rs ++ drs, S1, rel1.ent, by rw [G.call_Z]; exact as.app (hd _ _ _), hl, ?_⟩
  cases e : F (rs ++ drs) S1 with
  | ok r S2 => rw [e] at h1; exact fun v H' k => h1 v H' (RtOk.rok rel1 k)
  | exc x S2 => rw [e] at h1; exact fun cls dd H' k => h1 cls dd H' (k.call rel1)
  | bad => rw [e] at h1; exact h1.elim
theorem run_Y {k : Nat} {f : Addr} {fd : FuncData} {ps : List Str} {sp : Sp} {ds us : List Value} {dvs vs : List V} {pins : List (Addr × Obj)} {σ : L2.St} {H : Hp} {s : Shared} {Q : VK} (hgu : X.A.guards = some []) (tk : Takes X W) (G : FnY X.prog X.w X.K X.mg X.base k f fd ps sp) (hr : Room k X.A)
    (hb : Binds X.K fd ps ds) (hd : Vals dvs ds) (I : Inv X pins σ H s) (r : Vals vs us) (h : sp (vs ++ dvs) H Q (WA W σ)) : wpAny (model X.prog X.w) X.A (call (.ref f) us) (EP X pins σ Q) X.xe s := by
  have both := r.append hd
  have many : (us ++ ds).length = ps.length := both.length.symm.trans (G.len _ _ _ _ h)
  refine wpAny_call (codeAny_mono (G.run _ _ s H ⟨us, []⟩ _ _ Q _ hgu hr I.env0 (hb s us I.kIn many) both h) fun r s' hq => ?_)
  cases r with
  | error e => exact tk e s' (XE.of_call I (fun _ _ _ z => z) hq)
  | ok fl => cases fl <;> first | exact I.after hq | exact False.elim hq
theorem e_callY {k np : Nat} {f : Addr} {fd : FuncData} {ps : List Str} {F : SF} {drs : List RV} {dvs : List V} {ds : List Value} {x : Str} {p pos : Pos} {e : Expr} {es : List Expr} {fs : SA} (hgu : X.A.guards = some []) (tk : Takes X W)
    (G : FnY X.prog X.w X.K X.mg X.base k f fd ps (spY w np F)) (hr : Room k X.A) (hg : Gl X x) (hm : X.mg x = some (.ref f)) (hk : PySem.W.keepIn X.K (.ref f) = true) (hb : Binds X.K fd ps ds) (hd : Vals dvs ds) (hdr : DefOk w drs dvs)
    (hdb : (x == ("__debug__" : Str)) = false) (he : starEach (e :: es) X.env = (false, eval e X.env) :: starEach es X.env) (hpl : (backTo pos (starEach es X.env)).any (·.1) = false) (ha : PA X (e :: es) (rdA w W fs)) :
    PE X (.Call (.Name x p) (e :: es) [] pos) (rdE w W (sCallY np F drs fs)) := by
  refine PE.imp ⟨fun pins s σ H Q I h => wpAny_Call_Name_kw (ld_glob I hg hm ?_ hdb)⟩ fun _ _ _ h => rd_callY hdr h
  refine PySem.W.callWith_K (h₀ := X.base) I.ok.mod.kin hk (thn (ha.run pos pins s σ H _ I h) fun us s1 ⟨vs, H1, I1, r, q⟩ => ⟨I1.kIn, ?_⟩) he hpl
  exact run_Y hgu tk G hr hb hd I1 r q
theorem e_callY0 {k np : Nat} {f : Addr} {fd : FuncData} {ps : List Str} {F : SF} {drs : List RV} {dvs : List V} {ds : List Value} {x : Str} {p pos : Pos} (hgu : X.A.guards = some []) (tk : Takes X W)
    (G : FnY X.prog X.w X.K X.mg X.base k f fd ps (spY w np F)) (hr : Room k X.A) (hg : Gl X x) (hm : X.mg x = some (.ref f)) (hk : PySem.W.keepIn X.K (.ref f) = true) (hb : Binds X.K fd ps ds) (hd : Vals dvs ds) (hdr : DefOk w drs dvs)
    (hdb : (x == ("__debug__" : Str)) = false) : PE X (.Call (.Name x p) [] [] pos) (rdE w W (sCallY np F drs sNil)) := by
  refine PE.imp ⟨fun pins s σ H Q I h => wpAny_Call_Name_kw (ld_glob I hg hm ?_ hdb)⟩ fun _ _ _ h => rdA_nil (rd_callY hdr h)
  exact PySem.W.callWith_K0 I.kIn hk (run_Y (us := []) hgu tk G hr hb hd I .nil h)
/-- nothing leaves a block -/
theorem takesF : Takes X WF := fun _ _ ⟨_, _, _, _, _, _, _, _, _, _, _, _, _, _, _, _, z⟩ => z.elim
end
end DL

set_option maxRecDepth 100000
set_option maxHeartbeats 2000000
/-! The value layer: raise; try .. except .. as e: x = e. -/
namespace DL
open PySem L2
section
variable {w : Wd} {W : WX} {X : Cx}
/-! ### raise C('..') -/
def sRaise (c : Nat) : SS := fun ρ S => .ex (.exc c []) ρ S
/-- what is asked of an own class of exceptions without an __init__ -/
structure ExcK (K : PySem.W.Frag) (C : Addr) : Prop where
  made : PySem.W.excIn K C [.type "ValueError", .type "Exception", .type "BaseException", .type "object"] "ValueError.__new__" = true
  kp : PySem.W.keepIn K (.ref C) = true
  sub : PySem.W.subIn K (.ref C) (.type "BaseException") = some true
  ty : PySem.W.typeIn K (.ref C) = some (.type "type")
def excKB (K : PySem.W.Frag) (C : Addr) : Bool := PySem.W.excIn K C [.type "ValueError", .type "Exception", .type "BaseException", .type "object"] "ValueError.__new__" && (PySem.W.keepIn K (.ref C) && (decide (PySem.W.subIn K (.ref C) (.type "BaseException") = some true) && decide (PySem.W.typeIn K (.ref C) = some (.type "type"))))
theorem excKB_ok {K : PySem.W.Frag} {C : Addr} (h : excKB K C = true) : ExcK K C := by
  obtain ⟨h1, h⟩ := and2 h
  obtain ⟨h2, h⟩ := and2 h
  obtain ⟨h3, h4⟩ := and2 h
  exact ⟨h1, h2, of_decide_eq_true h3, of_decide_eq_true h4⟩
theorem st_raise {c j : Nat} {x m : Str} {p p2 pos pos' : Pos} (hc : X.calm = true) (tk : Takes X W) (k : ExcK X.K (w.cl c)) (gC : X.mg x = some (.ref (w.cl c))) (hg : Gl X x) (hdb : (x == ("__debug__" : Str)) = false) :
    PS X (.Raise (some (.Call (.Name x p) [.Constant (.str m) j p2] [] pos)) none pos') (rdS w W (sRaise c)) :=
  PS.imp (ps_raise hc tk (pmk_own PySem.F.excBase_ValueError k.made gC k.kp (raises_own k.sub k.ty) hg hdb)) fun D σ H ⟨g, ρ, S, rel, h⟩ =>
    h (.ref (w.cl c)) none σ H ⟨g, .refl _ _, rel, c, [], rfl, rfl, .inl ⟨rfl, rfl⟩⟩

/-! ### a caught exception is known from now on -/
theorem Inv.track {pins : List (Addr × Obj)} {σ : L2.St} {H : Hp} {s : Shared} {a : Addr} {oe : Obj} {vs : Array Value} {cls : Value} {d : Option Addr} (I : Inv X pins σ H s) (ha : s.heap.get? a = some oe) (hz : Zc cls d oe) (hd : oe.data = .fields vs) (na : H a = none)
    (nL : a ≠ X.env.locals) (n0 : X.s_0.heap.get? a = none) (np : ∀ p ∈ X.pn ++ pins, p.1 ≠ a) : Inv X pins σ (upd H a (ExcO cls d a)) s := by
  have other : ∀ {b u}, H b = some u → b ≠ a := fun {b u} e q => by rw [q, na] at e; cases e
  have old : ∀ {b o}, X.s_0.heap.get? b = some o → b ≠ a := fun {b o} e q => by rw [q, n0] at e; cases e
  refine ⟨I.ok, I.os, I.bare, ⟨I.base.keep, I.base.slot, fun b o e n hx => ?_, I.base.there, fun b xs e => ?_, fun b o u e => ?_, fun b ps e => ?_⟩, I.loc, I.cell, ?_, fun x c e => ?_, fun p hp => ?_, fun b u e => ?_, I.len⟩
  · rw [upd_ne (old e)]; exact I.base.free b o e n hx
  · have q := I.base.tups b xs e
    rw [upd_ne (other q)]; exact q
  · have q := I.base.frzs b o u e
    rw [upd_ne (other q)]; exact q
  · obtain ⟨more, q⟩ := I.base.tbls b ps e
    exact ⟨more, by rw [upd_ne (other q)]; exact q⟩
  · rw [upd_ne (Ne.symm nL)]; exact I.free
  · have ne : c ≠ a := fun q => by
      obtain ⟨v, o, ho, hcell⟩ := I.cell x c e
      rw [q, ha] at ho
      cases ho
      rw [hd] at hcell
      cases hcell
    rw [upd_ne ne]; exact I.freeC x c e
  · obtain ⟨e1, e2, e3, e4, e5⟩ := I.pin p hp
    exact ⟨e1, by rw [upd_ne (np p hp)]; exact e2, e3, e4, e5⟩
  · by_cases q : b = a
    · subst q
      rw [upd_same] at e
      cases e
      exact ⟨⟨oe, vs, ha, hz, hd⟩, ⟨oe, ha⟩, fun h1 h2 ⟨o, us, z1, z2, z3⟩ st => ⟨o, us, st _ z1, z2, z3⟩⟩
    · rw [upd_ne q] at e
      exact (I.hok b u e).stay (fun c v _ z => z) (fun c z => by rw [upd_ne (other z)]; exact z) fun c xs z => by rw [upd_ne (other z)]; exact z

/-! ### try: body, except x as n: y = n -/
/-- the wish of the body: slot i is n's, slot j is y's -/
def wKeep (K : PySem.W.Frag) (c : Value) (i j : Nat) (Wout : WX) (D : Ends) : WX := fun cls d σ H =>
  ∃ b, PySem.W.exmOne K cls c = some b ∧ (b = true → ∀ a, H a = none → D.nx (((σ.set i (some (.ref a))).set j (some (.ref a))).set i none) (upd H a (ExcO cls d a))) ∧ (b = false → Wout cls d σ H)
theorem ps_try_keep {x n y : Str} {c : Value} {i j : Nat} {body : List Stmt} {np pn1 py apos pos pos' : Pos} {tb : WX → TS} {Wout : WX} (hs : X.stack = X.env :: X.outer) (hf : X.env.frame = some X.env.locals) (hex : X.ex = []) (hN : X.N.Nodup) (hi : X.N[i]? = some n) (hj : X.N[j]? = some y)
    (hln : X.env.kindOf n = some .local) (hly : L2.Loc X.env.scope y) (hyf : X.fn y = true ∨ X.env.scope.names.lookup y = some .local) (hv : Vis X.env.scope n) (hd1 : (n == ("__debug__" : Str)) = false) (hd2 : (n == ("__classdict__" : Str)) = false)
    (hsw : swapsWith (.Name n pn1) (some (.Name y py)) apos.line X.env = pure false) (hc : Names X x c) (tk : Takes X Wout)
    (hb : ∀ (W : WX) (pn : List (Addr × Obj)) (xe : Value → Shared → Prop), Takes (X.tr pn xe) W → PassesOwn (model X.prog X.w) X.A X.env xe → PSs (X.tr pn xe) body (tb W)) :
    PS X (.Try body [.ExceptHandler (some (.Name x np)) (some n) [.Assign [.Name y py] (.Name n pn1) apos] pos'] [] [] pos) (fun D σ H => tb (wKeep X.K c i j Wout D) D σ H) := by
  refine ⟨fun pins s σ H D I h => ?_⟩
  have ok := I.ok
  have frames : X.A.frames = some (X.env :: X.outer) := ok.frames.trans (congrArg some hs)
  refine wpAny_Try_except (wpAny_mono ((hb (wKeep X.K c i j Wout D) (X.pn ++ pins) (fun e s₁ => wpAny (model X.prog X.w) X.A (noteFrame e X.env) (fun _ s₂ => wpAny (model X.prog X.w) X.A (setFlight e none) (fun _ s₃ =>
    wpAny (model X.prog X.w) X.A (handleBy e X.env [.ExceptHandler (some (.Name x np)) (some n) [.Assign [.Name y py] (.Name n pn1) apos] pos']) (SP X pins D) X.xe s₃) X.xe s₂) X.xe s₁) (fun u s' caught => ?_) PassesOwn.looking).run [] s σ H D (I.toTry _) h) (fun f s1 done => ?_) fun _ _ he => he)
  · obtain ⟨a, B, sI, pins', σ1, H1, cls, d, rfl, J', nb, up, sky, na, os, ag, b, hb1, hyes, hno⟩ := caught
    have J : Inv X pins σ1 H1 sI := J'.ofTry ok
    rw [hs] at sky
    show wpAny (model X.prog X.w) X.A (noteFrame (.ref a) X.env) _ _ _
    refine Sky.land Zc.steady frames hf sky fun h3 fl3 up3 => ?_
    have J3 : Inv X pins σ1 H1 { s' with heap := h3 } := J.landed nb fl3.1 (up.trans up3) os ag
    obtain ⟨oe3, vs3, he3, hz3, hd3⟩ := fl3.there
    have nfr : a ∉ frs (X.env :: X.outer) := fun hm => by
      obtain ⟨_, o', e', hnf⟩ := fl3.2.2.1.mem hm
      rw [he3] at e'
      cases e'
      exact hnf _ hd3
    have nL : a ≠ X.env.locals := fun z => nfr (List.mem_filterMap.mpr ⟨X.env, List.mem_cons_self, by rw [hf, z]⟩)
    have nF : a ∉ X.fs := fun hm => by
      obtain ⟨e, he, q⟩ := List.mem_filterMap.mp hm
      exact nfr (List.mem_filterMap.mpr ⟨e, List.mem_cons_of_mem _ he, q⟩)
    -- it stood nowhere ahead of the body's end
    have nI : sI.heap.get? a = none := by
      cases q : sI.heap.get? a with
      | none => rfl
      | some o =>
        have z := nb a o q (by rw [hs]; exact nfr)
        rw [fl3.2.1] at z
        cases z
    have n0 : X.s_0.heap.get? a = none := by
      cases q : X.s_0.heap.get? a with
      | none => rfl
      | some o =>
        obtain ⟨o', z⟩ := J.base.there a o q (by rw [hex]; simp)
        rw [nI] at z
        cases z
    have npin : ∀ p ∈ X.pn ++ pins, p.1 ≠ a := fun p hp z => by
      have q := (J.pin p hp).1
      rw [z, nI] at q
      cases q
    have S3 := J3.suite he3 hd3 na nL nF
    refine wpAny_handleBy_cons (codeAny_handlers_test ?_) (by intro q; cases q)
    have LT : PySem.W.Looks (model X.prog X.w) h3 (typeOf (.ref a)) cls := fun A Q E s k q => wpAny_typeOf_ref (k _ _ he3) (by rw [hz3.1]; exact q)
    have LM := PySem.W.exm_one (M := model X.prog X.w) (J3.kIn) LT hb1
    obtain ⟨hg, hdbg, hm⟩ := hc
    have seen : ∀ {Q : Value → Shared → Prop} {E : Value → Shared → Prop}, Q c { s' with heap := h3 } → wpAny (model X.prog X.w) (X.A.mark (some (.ref a))) (eval (.Name x np) X.env) Q E { s' with heap := h3 } := fun {Q E} q =>
      hm.elim (fun hm => ld_glob (X := X.suite a ((a, oe3) :: (X.pn ++ pins))) S3 hg hm q hdbg) fun ⟨hm, hv, hnn⟩ => ld_blt (X := X.suite a ((a, oe3) :: (X.pn ++ pins))) S3 hg hm hv q hnn hdbg
    refine seen (LM.here ?_)
    cases b with
    | true =>
      refine codeAny_handlers_suite_as (HandSPX.lands_againZ fl3 fun h4 fl4 up4 => ?_)
      have J4 : Inv X pins σ1 H1 { s' with heap := h4 } := J.landed nb fl4.1 ((up.trans up3).trans up4) os ag
      obtain ⟨oe4, vs4, he4, hz4, hd4⟩ := fl4.there
      have S4 := J4.suite he4 hd4 na nL nF
      refine store_ok (X := X.suite a ((a, oe4) :: (X.pn ++ pins))) (v := .ref a) S4 hN hi (.inl hln) rfl (fun s5 S5 => ?_) (.inr hln)
      have hil : i < σ1.length := by rw [J.len]; exact (List.getElem?_eq_some_iff.mp hi).1
      have asg : PS (X.suite a ((a, oe4) :: (X.pn ++ pins))) (.Assign [.Name y py] (.Name n pn1) apos) (tAsg (tVar i) (gName j)) := ps_set (X := X.suite a ((a, oe4) :: (X.pn ++ pins))) hN hj hly (pe_var hi hv hd1 hd2) hsw hyf
      refine wpAny_mono ((pss_one asg).run [] s5 _ H1 { D with nx := fun σ' H' => H' = H1 ∧ σ' = (σ1.set i (some (.ref a))).set j (some (.ref a)), rt := fun _ _ => False, bk := fun _ _ => False, ct := fun _ _ => False } S5 ⟨.ref a, by rw [List.getElem?_set_self hil], rfl, rfl⟩) (fun f s6 hsp => ?_) (fun _ _ z => False.elim z)
      cases f with
      | next =>
        obtain ⟨σ6, H6, S6, eH, eσ⟩ := hsp
        subst eH eσ
        have K6 := S6.unsuite ok
        have g6 := (S6.pin (a, oe4) (List.mem_append_left _ List.mem_cons_self)).1
        refine gone_ok (Inv.track K6 g6 hz4 hd4 na nL n0 npin) hN hi hln fun s7 J7 => ?_
        exact ⟨_, _, J7, hyes rfl a na⟩
      | brk => obtain ⟨_, _, _, z⟩ := hsp; exact z.elim
      | cont => obtain ⟨_, _, _, z⟩ := hsp; exact z.elim
      | ret u => obtain ⟨_, _, _, _, _, z⟩ := hsp; exact z.elim
    | false =>
      show wpAny _ X.A (handleBy (.ref a) X.env []) _ _ _
      refine wpAny_handleBy_nil ?_
      obtain ⟨k1, k2, k3, oe, vs, T, oT, ts', he, hz, hd, h1, hr⟩ := id fl3
      unfold PySem.passOn
      refine wpAny_bind (wpAny_field he hd h1 ?_)
      rw [if_neg (show ¬ ((Value.ref T == Value.none) = true) from by simp)]
      have fin : wpAny (model X.prog X.w) X.A (setFlight (.ref a) X.env.frame) (fun _ s4 => wpAny (model X.prog X.w) X.A (throw (.ref a) : Sem Flow) (SP X pins D) X.xe s4) X.xe { s' with heap := h3 } := by
        rw [hf]
        refine HandSPX.setFlight_upZ fl3 fun h4 hh4 up4 => wpAny_throw (tk _ _ ?_)
        exact ⟨a, B, sI, pins, σ1, H1, cls, d, rfl, J, nb, (up.trans up3).trans up4, .inr (.inr (by rw [hs]; exact hh4)), na, os, ag, hno rfl⟩
      first
        | exact wpAny_bind (wpAny_pure (wpAny_bind fin))
        | exact wpAny_bind fin
  · cases f with
    | next => obtain ⟨σ', H', K', q⟩ := done; exact wpAny_execs_nil ⟨σ', H', K'.ofTry ok, q⟩
    | brk => obtain ⟨σ', H', K', q⟩ := done; exact ⟨σ', H', K'.ofTry ok, q⟩
    | cont => obtain ⟨σ', H', K', q⟩ := done; exact ⟨σ', H', K'.ofTry ok, q⟩
    | ret u => obtain ⟨v, σ', H', K', r, q⟩ := done; exact ⟨v, σ', H', K'.ofTry ok, r, q⟩
/-- .. over values: em: which classes are caught -/
def sTryK (em : Nat → Option Bool) (i j : Nat) (body : SS) : SS := fun ρ S => match body ρ S with
  | .ex (.exc c fs) ρ1 S1 => (match em c with
    | some true => .nx ((ρ1.set j (some (.exc c fs, .sh))).set i none) S1
    | some false => .ex (.exc c fs) ρ1 S1
    | none => .bad)
  | .ex _ _ _ => .bad
  | o => o
theorem rd_tryK {em : Nat → Option Bool} {i j : Nat} {body : SS} {cv : Value} {D : Ends} {σ : L2.St} {H : Hp} (hij : i ≠ j) (hem : ∀ c b, em c = some b → PySem.W.exmOne X.K (.ref (w.cl c)) cv = some b) (h : rdS w W (sTryK em i j body) D σ H) : rdS w (wKeep X.K cv i j W D) body D σ H := by
  obtain ⟨g, ρ, S, rel, h⟩ := h
  refine ⟨g, ρ, S, rel, ?_⟩
  unfold sTryK at h
  cases e : body ρ S with
  | nx ρ1 S1 => rw [e] at h; exact h
  | rt r S1 => rw [e] at h; exact h
  | bk ρ1 S1 => rw [e] at h; exact h
  | ct ρ1 S1 => rw [e] at h; exact h
  | bad => rw [e] at h; exact h
  | ex x ρ1 S1 =>
    rw [e] at h
    cases x with
    | exc c fs =>
      dsimp only at h
      intro cls dd σ' H' hx
      obtain ⟨g', s, rel', c', fs', e1, e2, e3⟩ := id hx
      cases e1
      subst e2
      cases q : em c with
      | none => rw [q] at h; exact h.elim
      | some b =>
        rw [q] at h
        refine ⟨b, hem c b q, fun hb a na => ?_, fun hb => ?_⟩
        · subst hb
          have eq : (((σ'.set i (some (V.ref a))).set j (some (V.ref a))).set i none) = ((σ'.set j (some (V.ref a))).set i none) := by
            rw [List.set_comm _ _ hij, List.set_set]
          rw [eq]
          have st : StepE g'.m H' g'.m (upd H' a (ExcO (.ref (w.cl c)) dd a)) := .new na
          have r2 := rel'.new (o := ExcO (.ref (w.cl c)) dd a) na
          have rep : Rep w g'.m g'.Z (upd H' a (ExcO (.ref (w.cl c)) dd a)) (.exc c fs) (.ref a) := by
            rcases e3 with ⟨rfl, rfl⟩ | ⟨b, gs, rfl, nn, hb, rn⟩
            · exact .exc0 upd_same
            · cases fs with
              | nil => exact absurd rfl nn
              | cons f1 fr => exact .excF upd_same (by rw [upd_ne (ne_of_none hb na)]; exact hb) (rn.mono (st.mono fun _ z => z))
          exact h _ _ ⟨g', s.trans (g2 := g') (g3 := g'.at g'.m) st.toS, (r2.set rep).clear⟩
        · subst hb
          exact h (.ref (w.cl c)) dd σ' H' hx
    | _ => exact h.elim
theorem st_tryK {em : Nat → Option Bool} {x n y : Str} {cv : Value} {i j : Nat} {sb : SS} {body : List Stmt} {np pn1 py apos pos pos' : Pos} (hij : i ≠ j) (hem : ∀ c b, em c = some b → PySem.W.exmOne X.K (.ref (w.cl c)) cv = some b)
    (hs : X.stack = X.env :: X.outer) (hf : X.env.frame = some X.env.locals) (hex : X.ex = []) (hN : X.N.Nodup) (hi : X.N[i]? = some n) (hj : X.N[j]? = some y)
    (hln : X.env.kindOf n = some .local) (hly : L2.Loc X.env.scope y) (hyf : X.fn y = true ∨ X.env.scope.names.lookup y = some .local) (hv : Vis X.env.scope n) (hd1 : (n == ("__debug__" : Str)) = false) (hd2 : (n == ("__classdict__" : Str)) = false)
    (hsw : swapsWith (.Name n pn1) (some (.Name y py)) apos.line X.env = pure false) (hc : Names X x cv) (tk : Takes X W)
    (hb : ∀ (W : WX) (pn : List (Addr × Obj)) (xe : Value → Shared → Prop), Takes (X.tr pn xe) W → PassesOwn (model X.prog X.w) X.A X.env xe → PSs (X.tr pn xe) body (rdS w W sb)) :
    PS X (.Try body [.ExceptHandler (some (.Name x np)) (some n) [.Assign [.Name y py] (.Name n pn1) apos] pos'] [] [] pos) (rdS w W (sTryK em i j sb)) :=
  PS.imp (ps_try_keep hs hf hex hN hi hj hln hly hyf hv hd1 hd2 hsw hc tk hb) fun _ _ _ h => rd_tryK hij hem h
end
end DL

set_option maxRecDepth 100000
set_option maxHeartbeats 2000000
/-! The value layer: instances made, methods, o[k] by an own def, all of which may raise; isinstance of what was caught. -/
namespace DL
open PySem L2
section
variable {w : Wd} {W : WX} {X : Cx}
/-- a def runs, in whatever surroundings -/
theorem run_YA {A : Around} {k : Nat} {f : Addr} {fd : FuncData} {ps : List Str} {sp : Sp} {us : List Value} {vs : List V} {pins : List (Addr × Obj)} {σ : L2.St} {H : Hp} {s : Shared} {Q : VK} (hgu : A.guards = some []) (tk : Takes X W) (G : FnY X.prog X.w X.K X.mg X.base k f fd ps sp) (hr : Room k A)
    (e0 : Env0 X.prog X.w X.K X.mg X.base A X.stack s H) (hb : Binds X.K fd ps []) (I : Inv X pins σ H s) (r : Vals vs us) (h : sp vs H Q (WA W σ)) : wpAny (model X.prog X.w) A (call (.ref f) us) (EP X pins σ Q) X.xe s := by
  have many : (us ++ []).length = ps.length := by rw [List.append_nil, ← r.length]; exact G.len _ _ _ _ h
  have b := hb s us I.kIn many
  rw [List.append_nil] at b
  refine wpAny_call (codeAny_mono (G.run A _ s H ⟨us, []⟩ us vs Q _ hgu hr e0 b r h) fun r s' hq => ?_)
  cases r with
  | error e => exact tk e s' (XE.of_call I (fun _ _ _ z => z) hq)
  | ok fl => cases fl <;> first | exact I.after hq | exact False.elim hq

/-! ### C(..) -/
def initY (n c : Nat) (b : SS) : SF := fun rs S => match b (entryI n c rs) S with
  | .nx ρ S' => (match ρ[(0 : Nat)]? with
    | some (some (.ins c' fs, .own)) => .ok (.ins c' fs, .own) S'
    | _ => .bad)
  | .ex x _ S' => .exc x S'
  | _ => .bad
def PostIY (w : Wd) (Q : VK) (E : XK) (g : G) (H : Hp) (x : Addr) (t : R RV) : Prop := match t with
  | .ok r S' => ∀ H', RtOk w g H r S' (.ref x) H' → Q .non H'
  | .exc y S' => ∀ cls dd H', XCOk w g H y S' cls dd H' → E cls dd H'
  | .bad => False
/-- THE PROMISE of an __init__ that may raise -/
def spIY (w : Wd) (c np : Nat) (F : SF) : Sp := fun vs H Q E => ∃ g rs S x dx us, vs = .ref x :: us ∧ H x = some (.ins (w.cl c) dx []) ∧ EntI w g H S x ∧ Args w g.m g.Z H rs us ∧ LentAll w g H rs us ∧ rs.length + 1 = np ∧ PostIY w Q E g H x (F rs S)
theorem initY_ok {P : Program} {pw : World} {K : PySem.W.Frag} {mg : Str → Option Value} {base : Heap} {x qual : Str} {st : Stmt} {dvs : List V} {f : Addr} {fd : FuncData} {N ps : List Str} {k c : Nat} {b : SS} (F : FunX K x qual st dvs f fd) (Sc : FnScope N ps (defScope st))
    (hb : ∀ (cdv : Value) (A : Around) (outer : List Env) (s : Shared) (H : Hp) (E : XK), A.guards = some [] → Room k (A.deeper (PyProof.Rows.envOfC qual (defScope st) s.heap.objs.size f cdv)) → PSs (cxOf (L2.CX P pw) P pw K mg base N qual (defScope st) f cdv A outer s H E) (defBody st) (rdS w (WD E) b)) :
    FnY P pw K mg base (k + 1) f fd ps (spIY w c ps.length (initY N.length c b)) := by
  refine fnY_of F Sc (fun vs H Q E ⟨g, rs, S, x, dx, us, ev, _, _, a, _, hl, _⟩ => by rw [ev, List.length_cons, ← a.length, hl]) fun cdv A outer s H vs Q E hg hr ⟨g, rs, S0, x, dx, us, ev, hx, e, a, la, hl, post⟩ => ?_
  subst ev
  refine ⟨_, hb cdv A outer s H E hg hr, g, _, S0, e.rel hx a la, ?_⟩
  unfold initY at post
  cases ev : b (entryI N.length c rs) S0 with
  | nx ρ S' =>
    rw [ev] at post
    dsimp only at post
    intro σ' H' ⟨g', s', r'⟩
    cases e0 : ρ[(0 : Nat)]? with
    | none => rw [e0] at post; exact post.elim
    | some o =>
      cases o with
      | none => rw [e0] at post; exact post.elim
      | some q =>
        obtain ⟨d, fl⟩ := q
        cases d with
        | ins c' fs =>
          cases fl with
          | own =>
            rw [e0] at post
            obtain ⟨v, hv, y, rfl, bx, yz, ym⟩ := r'.loc 0 _ _ e0
            have hxy := r'.slf x _ (s'.sl.trans e.sl) e0
            rw [hv] at hxy
            cases hxy
            exact post H' ⟨g', s', r'.sto, r'.nd, r'.sep, r'.trk, r'.sez, x, rfl, ym, bx, yz⟩
          | _ => rw [e0] at post; exact post.elim
        | _ => rw [e0] at post; cases fl <;> exact post.elim
  | ex d ρ S' => rw [ev] at post; exact fun cls dd σ' H' h => post cls dd H' h.xc
  | rt r S' => rw [ev] at post; exact post.elim
  | bk ρ S' => rw [ev] at post; exact post.elim
  | ct ρ S' => rw [ev] at post; exact post.elim
  | bad => rw [ev] at post; exact post.elim
def sMakeY (np : Nat) (F : SF) (drs : List RV) (fs : SA) : SE := fun ρ S => (fs ρ S).bind fun rs S1 => if (rs ++ drs).length + 1 = np then F (rs ++ drs) S1 else .bad
/-- what the new instance's __init__ is asked -/
def tMakeY (C : Addr) (sp : Sp) (dvs : List V) (W : WX) (t : TA) : TE := fun σ H Q => t σ H fun vs H1 => ∀ x dx, H1 x = none → H1 dx = none → dx ≠ x →
  sp (.ref x :: (vs ++ dvs)) (upd (upd H1 dx (.own x)) x (.ins C dx [])) (fun v H2 => v = .non ∧ Q (.ref x) H2) (WA W σ)
theorem rd_makeY {np c : Nat} {F : SF} {drs : List RV} {dvs : List V} {fs : SA} {σ : L2.St} {H : Hp} {Q : VK} (hd : DefOk w drs dvs) (h : rdE w W (sMakeY np F drs fs) σ H Q) : tMakeY (w.cl c) (spIY w c np F) dvs W (rdA w W fs) σ H Q := by
  obtain ⟨g, ρ, S, rel, h⟩ := h
  refine rdA_imp (bindA rel h goodE) fun vs H1 ⟨rs, S1, m1, s1, rel1, as, _, h1⟩ => ?_
  split at h1
  rotate_left
  · exact h1.elim
  rename_i hl
  intro x dx hx hdx hne
  have s0 : StepE m1 H1 m1 (upd (upd H1 dx (.own x)) x (.ins (w.cl c) dx [])) := by
    have a : StepE m1 H1 m1 (upd H1 dx (.own x)) := .new hdx
    exact a.trans (.new (by rw [upd_ne (fun z => hne z.symm)]; exact hx))
  have hz : ∀ b, b ∈ g.zo ++ g.zb ↔ (g.at m1).Z b := fun b => by simp [G.Z]
  have nm : x ∉ m1 := fun q => rel1.trk x (.inl q) hx
  have nz : ¬ g.Z x := fun q => rel1.trk x (.inr q) hx
  have a2 : Args w m1 g.Z H1 (rs ++ drs) (vs ++ dvs) := as.app (hd _ _ _)
  have lz : ∀ b, (G.mk m1 [x] (g.zo ++ g.zb) (some x)).Z b → g.Z b ∨ H1 b = none := fun b q => by
    rcases q with q | q
    · exact .inr (by rw [List.mem_singleton.mp q]; exact hx)
    · exact .inl ((hz b).mp q)
  have zn : ∀ b ∈ [x], H1 b = none := fun b q => by rw [List.mem_singleton.mp q]; exact hx
  refine ⟨G.mk m1 [x] (g.zo ++ g.zb) (some x), rs ++ drs, S1, x, dx, vs ++ dvs, rfl, upd_same, ⟨?_, rel1.nd, fun b hb z => ?_, fun b q => ?_, rfl, fun q => nz ((hz x).mp q), rfl⟩, ArgsN (g := g.at m1) hx s0 hz a2, fun i r v h1 h2 hr => ?_, hl, ?_⟩
  · have q : Stored w m1 (G.mk m1 [x] (g.zo ++ g.zb) (some x)).Z H1 S1 := rel1.sto.less lz
    exact q.step s0 fun b hb => by
      rw [upd_ne (fun z => nm (by rw [← z]; exact hb)), upd_ne (fun z => rel1.trk b (.inl hb) (by rw [z]; exact hdx))]
  · rcases z with z | z
    · exact nm (by rw [← List.mem_singleton.mp z]; exact hb)
    · exact rel1.sep b hb ((hz b).mp z)
  · intro z
    have z1 := s0.grow b z
    rcases q with q | q | q
    · exact rel1.trk b (.inl q) z1
    · rw [List.mem_singleton.mp q, upd_same] at z
      cases z
    · exact rel1.trk b (.inr ((hz b).mp q)) z1
  · obtain ⟨v', hv', av⟩ := a2.get h1
    rw [h2] at hv'
    cases hv'
    exact (av.lentN (m := m1) (g := g.at m1) (sl := some x) hx s0 hz).2 hr av.read
  · cases e : F (rs ++ drs) S1 with
    | ok r S2 =>
      rw [e] at h1
      exact fun H' k => ⟨rfl, h1 (.ref x) H' (RtOk.rokG (g := g.at m1) (gc := G.mk m1 [x] (g.zo ++ g.zb) (some x)) rel1 s0 rfl zn hz k)⟩
    | exc y S2 =>
      rw [e] at h1
      exact fun cls dd H' k => h1 cls dd H' (XCOk.xok (g := g.at m1) (gc := G.mk m1 [x] (g.zo ++ g.zb) (some x)) rel1 s0 rfl zn hz k)
    | bad => rw [e] at h1; exact h1.elim
theorem run_makeY {k : Nat} {f C : Addr} {fd : FuncData} {ps : List Str} {sp : Sp} {ds us : List Value} {dvs vs : List V} {pins : List (Addr × Obj)} {σ : L2.St} {H : Hp} {s : Shared} {Q : VK} (hgu : X.A.guards = some []) (tk : Takes X W) (M : Mk X.K C f) (G : FnY X.prog X.w X.K X.mg X.base k f fd ps sp) (hr : Room (k + 1) X.A)
    (hb : Binds X.K fd ps ds) (hd : Vals dvs ds) (I : Inv X pins σ H s) (r : Vals vs us)
    (h : ∀ x dx, H x = none → H dx = none → dx ≠ x → sp (.ref x :: (vs ++ dvs)) (upd (upd H dx (.own x)) x (.ins C dx [])) (fun v H2 => v = .non ∧ Q (.ref x) H2) (WA W σ)) : wpAny (model X.prog X.w) X.A (call (.ref C) us) (EP X pins σ Q) X.xe s := by
  have said := h (s.heap.objs.size + 1) s.heap.objs.size (I.hok.fresh (Nat.le_succ _)) (I.hok.fresh (Nat.le_refl _)) (Nat.ne_of_lt (Nat.lt_succ_self _))
  have J := Inv.made (C := C) I
  have both : Vals (V.ref (s.heap.objs.size + 1) :: (vs ++ dvs)) (Value.ref (s.heap.objs.size + 1) :: (us ++ ds)) := .cons rfl (r.append hd)
  have many : (Value.ref (s.heap.objs.size + 1) :: us ++ ds).length = ps.length := both.length.symm.trans (G.len _ _ _ _ said)
  have gu : (X.A.under (.builtin "type.__call__" ⟨.ref C :: us, []⟩)).guards = some [] := by
    show pushGuards (Code.guards (.builtin "type.__call__" ⟨.ref C :: us, []⟩)) X.A.guards = _
    rw [show Code.guards (.builtin "type.__call__" ⟨.ref C :: us, []⟩) = [] from by rfl]
    exact hgu
  refine wpAny_call (make_map (f := f) I.kIn M.makes M.init (beq_iff_eq.mp M.fn) (codeAny_mono (G.run _ X.stack _ _ ⟨Value.ref (s.heap.objs.size + 1) :: us, []⟩ _ _ _ _ gu (hr.make C us []) (J.env0.make C us []) (hb _ (Value.ref (s.heap.objs.size + 1) :: us) J.kIn many) both said) fun r s' hq => ?_))
  cases r with
  | error e => exact tk e s' (XE.of_call J (fun _ _ _ z => z) hq)
  | ok fl =>
    cases fl with
    | ret u =>
      obtain ⟨v, H', I3, rv, ev, q3⟩ := J.after hq
      subst ev
      exact ⟨rv, ⟨V.ref (s.heap.objs.size + 1), H', I3, rfl, q3⟩⟩
    | next => exact False.elim hq
    | brk => exact False.elim hq
    | cont => exact False.elim hq
theorem e_makeY {k np c : Nat} {f : Addr} {fd : FuncData} {ps : List Str} {F : SF} {drs : List RV} {dvs : List V} {ds : List Value} {x : Str} {p pos : Pos} {e : Expr} {es : List Expr} {fs : SA} (hgu : X.A.guards = some []) (tk : Takes X W) (M : Mk X.K (w.cl c) f)
    (G : FnY X.prog X.w X.K X.mg X.base k f fd ps (spIY w c np F)) (hr : Room (k + 1) X.A) (hg : Gl X x) (hm : X.mg x = some (.ref (w.cl c))) (hb : Binds X.K fd ps ds) (hd : Vals dvs ds) (hdr : DefOk w drs dvs)
    (hdb : (x == ("__debug__" : Str)) = false) (he : starEach (e :: es) X.env = (false, eval e X.env) :: starEach es X.env) (hpl : (backTo pos (starEach es X.env)).any (·.1) = false) (ha : PA X (e :: es) (rdA w W fs)) :
    PE X (.Call (.Name x p) (e :: es) [] pos) (rdE w W (sMakeY np F drs fs)) := by
  refine PE.imp ⟨fun pins s σ H Q I h => wpAny_Call_Name_kw (ld_glob I hg hm ?_ hdb)⟩ fun _ _ _ h => rd_makeY (c := c) hdr h
  refine PySem.W.callWith_K (h₀ := X.base) I.ok.mod.kin M.kp (thn (ha.run pos pins s σ H _ I h) fun us s1 ⟨vs, H1, I1, r, q⟩ => ⟨I1.kIn, ?_⟩) he hpl
  exact run_makeY hgu tk M G hr hb hd I1 r q
theorem e_makeY0 {k np c : Nat} {f : Addr} {fd : FuncData} {ps : List Str} {F : SF} {drs : List RV} {dvs : List V} {ds : List Value} {x : Str} {p pos : Pos} (hgu : X.A.guards = some []) (tk : Takes X W) (M : Mk X.K (w.cl c) f)
    (G : FnY X.prog X.w X.K X.mg X.base k f fd ps (spIY w c np F)) (hr : Room (k + 1) X.A) (hg : Gl X x) (hm : X.mg x = some (.ref (w.cl c))) (hb : Binds X.K fd ps ds) (hd : Vals dvs ds) (hdr : DefOk w drs dvs)
    (hdb : (x == ("__debug__" : Str)) = false) : PE X (.Call (.Name x p) [] [] pos) (rdE w W (sMakeY np F drs sNil)) := by
  refine PE.imp ⟨fun pins s σ H Q I h => wpAny_Call_Name_kw (ld_glob I hg hm ?_ hdb)⟩ fun σ H Q h => rdA_nil (rd_makeY (c := c) hdr h)
  exact PySem.W.callWith_K0 I.kIn M.kp (run_makeY (us := []) hgu tk M G hr hb hd I .nil h)

/-! ### o.m(..) -/
/-- the receiver's arguments -/
theorem ent_meth {np : Nat} {F : SF} {g : G} {ρ : Loc} {S : Store} {σ : L2.St} {H : Hp} {rs : List RV} {vs : List V} {Q : VK} (rel : Rel w g ρ S σ H) (as : Args w g.m g.Z H rs vs) (hl : rs.length = np) (post : PostE w W ρ σ Q g H (F rs S)) : spY w np F vs H Q (WA W σ) := by
  refine ⟨g.call, rs, S, rel.ent, by rw [G.call_Z]; exact as, hl, ?_⟩
  cases e : F rs S with
  | ok r S2 => rw [e] at post; exact fun v H' k => post v H' (RtOk.rok rel k)
  | exc x S2 => rw [e] at post; exact fun cls dd H' k => post cls dd H' (k.call rel)
  | bad => rw [e] at post; exact post.elim
def sMeth (np : Nat) (F : SF) (okc : Nat → Bool) (m : String) (f : SE) (drs : List RV) (fs : SA) : SE := fun ρ S => (f ρ S).bind fun r S1 => match r.1 with
  | .ins c gs => if okc c = true ∧ getN gs m = none then (fs ρ S1).bind fun rs S2 => (if (rs ++ drs).length + 1 = np then F ((.ins c gs, lend r.2) :: (rs ++ drs)) S2 else .bad) else .bad
  | _ => .bad
theorem lend_arg {m : List Addr} {Z : Addr → Prop} {H : Hp} {d : D} {fl : Fl} {v : V} (h : Arg w m Z H (d, fl) v) : Arg w m Z H (d, lend fl) v := by
  cases fl <;> exact h
/-- how the method's call runs -/
structure MethC (X : Cx) (o : Expr) (m : Str) (apos : Pos) (es : List Expr) (pos : Pos) : Prop where
  ev : ∃ pl : Sem Bool, eval (.Call (.Attribute o m apos) es [] pos) X.env = (do
      let ov ← eval o X.env
      standAt apos.atName
      let (f, first) ← holding [ov] (getMethod ov m pl)
      callWith pos f first (backTo pos (starEach es X.env)) (backToKw pos (keywordEach [] X.env)))
theorem e_methY {k np : Nat} {o e : Expr} {es : List Expr} {f : SE} {fs : SA} {F : SF} {m : String} {apos pos : Pos} {okc : Nat → Bool} {g : Addr} {fd : FuncData} {ps : List Str} {drs : List RV} {dvs : List V} {ds : List Value} (hgu : X.A.guards = some []) (tk : Takes X W)
    (hc : ∀ c, okc c = true → Cls X.K (w.cl c) ∧ Meth X.K (w.cl c) (s2 m) g) (G : FnY X.prog X.w X.K X.mg X.base k g fd ps (spY w np F)) (hr : Room k X.A) (hb : Binds X.K fd ps ds) (hd : Vals dvs ds) (hdr : DefOk w drs dvs)
    (mc : MethC X o (s2 m) apos (e :: es) pos) (he : starEach (e :: es) X.env = (false, eval e X.env) :: starEach es X.env) (hpl : (backTo pos (starEach es X.env)).any (·.1) = false) (ho : PE X o (rdE w W f)) (ha : PA X (e :: es) (rdA w W fs)) :
    PE X (.Call (.Attribute o (s2 m) apos) (e :: es) [] pos) (rdE w W (sMeth np F okc m f drs fs)) := by
  obtain ⟨pl, ev⟩ := mc.ev
  refine ⟨fun pins s σ H Q I ⟨gh, ρ, S, rel, h⟩ => PySem.W.methodCall_KW (pl := pl) (thn (ho.run pins s σ H _ I (bindE rel h goodE)) fun u s1 ⟨x, H1, I1, rx, r1, S1, m1, st1, rel1, res1, _, h1⟩ => ?_) ev⟩
  split at h1
  rotate_left
  · exact h1.elim
  rename_i c gs ed
  split at h1
  rotate_left
  · exact h1.elim
  rename_i cond
  obtain ⟨oc, nat⟩ := cond
  obtain ⟨d1, fl1⟩ := r1
  cases ed
  obtain ⟨a, dx, qs, rfl, hi, rn⟩ := (Read.look res1.arg.read).ins
  obtain rfl : u = Value.ref a := rx
  obtain ⟨cl, mt⟩ := hc c oc
  refine getmeth_ok I1 hi cl mt ((rn.get (x := m)).1 nat) ?_
  refine PySem.W.callWith_K (first := [.ref a]) (h₀ := X.base) I1.ok.mod.kin mt.kp (thn (ha.run pos pins s1 σ H1 _ I1 (bindA rel1 h1 goodE)) fun us s2 ⟨vs, H2, I2, rv, rs, S2, m2, st2, rel2, as, _, h2⟩ => ⟨I2.kIn, ?_⟩) he hpl
  split at h2
  rotate_left
  · exact h2.elim
  rename_i hl
  have a1 : Arg w m2 gh.Z H2 (.ins c gs, lend fl1) (.ref a) := lend_arg (st2.arg res1.arg)
  have all : Args w m2 gh.Z H2 ((.ins c gs, lend fl1) :: (rs ++ drs)) (V.ref a :: (vs ++ dvs)) := .cons a1 (as.app (hdr _ _ _))
  exact run_Y (us := .ref a :: us) (vs := V.ref a :: vs) hgu tk G hr hb hd I2 (.cons rfl rv) (ent_meth rel2 all (by simpa using hl) h2)
theorem e_methY0 {k np : Nat} {o : Expr} {f : SE} {F : SF} {m : String} {apos pos : Pos} {okc : Nat → Bool} {g : Addr} {fd : FuncData} {ps : List Str} {drs : List RV} {dvs : List V} {ds : List Value} (hgu : X.A.guards = some []) (tk : Takes X W)
    (hc : ∀ c, okc c = true → Cls X.K (w.cl c) ∧ Meth X.K (w.cl c) (s2 m) g) (G : FnY X.prog X.w X.K X.mg X.base k g fd ps (spY w np F)) (hr : Room k X.A) (hb : Binds X.K fd ps ds) (hd : Vals dvs ds) (hdr : DefOk w drs dvs)
    (mc : MethC X o (s2 m) apos [] pos) (ho : PE X o (rdE w W f)) : PE X (.Call (.Attribute o (s2 m) apos) [] [] pos) (rdE w W (sMeth np F okc m f drs sNil)) := by
  obtain ⟨pl, ev⟩ := mc.ev
  refine ⟨fun pins s σ H Q I ⟨gh, ρ, S, rel, h⟩ => PySem.W.methodCall_KW (pl := pl) (thn (ho.run pins s σ H _ I (bindE rel h goodE)) fun u s1 ⟨x, H1, I1, rx, r1, S1, m1, st1, rel1, res1, _, h1⟩ => ?_) ev⟩
  split at h1
  rotate_left
  · exact h1.elim
  rename_i c gs ed
  split at h1
  rotate_left
  · exact h1.elim
  rename_i cond
  obtain ⟨oc, nat⟩ := cond
  obtain ⟨d1, fl1⟩ := r1
  cases ed
  obtain ⟨a, dx, qs, rfl, hi, rn⟩ := (Read.look res1.arg.read).ins
  obtain rfl : u = Value.ref a := rx
  obtain ⟨cl, mt⟩ := hc c oc
  refine getmeth_ok I1 hi cl mt ((rn.get (x := m)).1 nat) ?_
  have h2 : PostE w W ρ σ Q (gh.at m1) H1 (if (([] : List RV) ++ drs).length + 1 = np then F ((.ins c gs, lend fl1) :: ([] ++ drs)) S1 else .bad) := h1
  split at h2
  rotate_left
  · exact h2.elim
  rename_i hl
  have a1 : Arg w m1 gh.Z H1 (.ins c gs, lend fl1) (.ref a) := lend_arg res1.arg
  have all : Args w m1 gh.Z H1 ((.ins c gs, lend fl1) :: drs) (V.ref a :: dvs) := .cons a1 (hdr _ _ _)
  exact PySem.W.callWith_K0 (first := [.ref a]) I1.kIn mt.kp (run_Y (us := [.ref a]) (vs := [V.ref a]) hgu tk G hr hb hd I1 (.cons rfl .nil) (ent_meth rel1 all (by simpa using hl) h2))

/-! ### o[k] by an own __getitem__ -/
structure ItemC (K : PySem.W.Frag) (C g : Addr) : Prop where
  at_ : PySem.W.findIn K (.ref C) "__getitem__" = some (some (.ref g))
  fn : PySem.W.fnIn K g = true
  isf : PySem.W.isFn K (.ref g) = true
def itemB (K : PySem.W.Frag) (C g : Addr) : Bool := decide (PySem.W.findIn K (.ref C) "__getitem__" = some (some (.ref g))) && (PySem.W.fnIn K g && PySem.W.isFn K (.ref g))
theorem itemB_ok {K : PySem.W.Frag} {C g : Addr} (h : itemB K C g = true) : ItemC K C g := by
  obtain ⟨h1, h⟩ := and2 h
  obtain ⟨h2, h3⟩ := and2 h
  exact ⟨of_decide_eq_true h1, h2, h3⟩
def sItemO (F : SF) (okc : Nat → Bool) (f u : SE) : SE := fun ρ S => (f ρ S).bind fun r S1 => (u ρ S1).bind fun q S2 => match r.1 with
  | .ins c gs => if okc c = true then F [(.ins c gs, lend r.2), (q.1, lend q.2)] S2 else .bad
  | _ => .bad
theorem e_itemO {k np : Nat} {o i : Expr} {f u : SE} {F : SF} {pos : Pos} {okc : Nat → Bool} {g : Addr} {fd : FuncData} {ps : List Str} (hgu : X.A.guards = some []) (tk : Takes X W) (hn : np = 2) (hc : ∀ c, okc c = true → ItemC X.K (w.cl c) g)
    (G : FnY X.prog X.w X.K X.mg X.base k g fd ps (spY w np F)) (hr : Room (k + 1) X.A) (hb : Binds X.K fd ps []) (ho : PE X o (rdE w W f)) (hi : PE X i (rdE w W u))
    (hsl : ∀ x v, subscripted i true x v = runValue (.builtin "lifetime.subscript" ⟨[x, v], []⟩)) : PE X (.Subscript o i pos) (rdE w W (sItemO F okc f u)) := by
  refine ⟨fun pins s σ H Q I ⟨gh, ρ, S, rel, h⟩ => ?_⟩
  refine PyProof.Rows.Subscript_ (thn (ho.run pins s σ H _ I (bindE rel h goodE)) fun v1 s1 ⟨x, H1, I1, rx, r1, S1, m1, st1, rel1, res1, _, h1⟩ => thn (hi.run pins s1 σ H1 _ I1 (bindE rel1 h1 goodE)) fun v2 s2 ⟨y, H2, I2, ry, r2, S2, m2, st2, rel2, res2, _, h2⟩ => ?_)
  split at h2
  rotate_left
  · exact h2.elim
  rename_i c gs ed
  split at h2
  rotate_left
  · exact h2.elim
  rename_i oc
  obtain ⟨d1, fl1⟩ := r1
  cases ed
  have ar1 := st2.arg res1.arg
  obtain ⟨a, dx, qs, rfl, hi', rn⟩ := (Read.look ar1.read).ins
  obtain rfl : v1 = Value.ref a := rx
  obtain ⟨od, J⟩ := ins_look I2 hi'
  have ic := hc c oc
  obtain ⟨d2, fl2⟩ := r2
  have all : Args w m2 gh.Z H2 [(.ins c gs, lend fl1), (d2, lend fl2)] [V.ref a, y] := .cons (lend_arg ar1) (.cons (lend_arg res2.arg) .nil)
  obtain ⟨mm, fr⟩ := I2.fr
  exact PySem.W.sub_K fr I2.ok.mod.kin J ic.at_ ic.fn ic.isf (run_YA (vs := [V.ref a, y]) hgu tk G hr.in1 I2.env0.in1 hb I2 (.cons rfl (.cons ry .nil)) (ent_meth rel2 all hn.symm h2)) (hsl _ _)
end
end DL

set_option maxRecDepth 100000
set_option maxHeartbeats 4000000
/-! The value layer: isinstance of exceptions, tuples turned round, count and index of truths, upper, str of numbers, targets op= . -/
namespace DL
open PySem PySem.Spec PyProof.Rows L2
section
variable {w : Wd} {W : WX} {X : Cx}
/-! ### isinstance -/
/-- px: by the class of a caught exception -/
def isiQ (pb : String → Option Bool) (pc px : Nat → Option Bool) (d : D) : Option Bool := match d with
  | .exc c [] => px c
  | d => isiP pb pc d
structure IsxOk (w : Wd) (u : Value) (pb : String → Option Bool) (pc px : Nat → Option Bool) : Prop where
  i : IsiOk w u pb pc
  x : ∀ c k, px c = some k → ExcC w.K (w.cl c) ∧ PySem.W.kitOne w.K (.ref (w.cl c)) u = some k
def rIsX (w : Wd) : List V → Hp → VK → Prop := fun xs H Q => ∃ (a : Addr) (c : Nat) (v : V) (u : Value) (b : Bool), xs = [.ref a, v] ∧ H a = some (ExcO (.ref (w.cl c)) none a) ∧ ExcC w.K (w.cl c) ∧ ClsV v u ∧ PySem.W.kitOne w.K (.ref (w.cl c)) u = some b ∧ Q (.bl b) H
theorem call_isX (hK : X.K = w.K) : CallR X (.builtin "isinstance") (rIsX w) := by
  intro pins s σ H xs us Q I r h
  obtain ⟨a, c, v, u, b, rfl, ha, ec, cv, ko, q⟩ := h
  obtain ⟨u1, u2, rfl, r1, r2⟩ := vals2 r
  cases r1
  have e2 := cv.eq r2
  subst e2
  obtain ⟨⟨oe, vs, hget, hz, hf⟩, _, _⟩ := I.hok _ _ ha
  have J : PySem.W.InstAt s.heap a oe (w.cl c) none := by
    obtain ⟨oc, oda, od, osl⟩ := oe
    obtain ⟨h1, h2⟩ := hz
    dsimp only at h1 h2 hf
    subst h1 h2 hf
    exact ⟨hget, rfl, rfl, trivial⟩
  exact PySem.W.kia_one (PySem.W.handS_kitx_exc ec.hg ec.hk ec.hs ec.hd ec.ha ec.hn ec.ht ec.hm) (hK ▸ I.kIn) J ko (fun z => nomatch z) fun tk => ⟨.bl b, H, I.kept (t' := tk) fun _ _ z => z, rfl, q⟩
theorem Look.exc0 {m : List Addr} {Z : Addr → Prop} {H : Hp} {c : Nat} {v : V} (h : Look w m Z H (.exc c []) v) : ∃ a, v = .ref a ∧ H a = some (ExcO (.ref (w.cl c)) none a) := by
  cases h.rep rfl with
  | exc0 e => exact ⟨_, rfl, e⟩
  | box b => cases b
theorem e_isx {e c : Expr} {f : SE} {v : V} {u : Value} {pb : String → Option Bool} {pc px : Nat → Option Bool} {p pos : Pos} (hK : X.K = w.K) (b : BN X "isinstance" (.builtin "isinstance")) (k : IsxOk w u pb pc px) (cv : ClsV v u) (hc : PE X c (tC v))
    (he : starEach (e :: [c]) X.env = (false, eval e X.env) :: starEach [c] X.env) (he2 : starEach (c :: []) X.env = (false, eval c X.env) :: starEach [] X.env) (hpl : (backTo pos (starEach [c] X.env)).any (·.1) = false) (ha : PE X e (rdE w W f)) :
    PE X (.Call (.Name "isinstance" p) [e, c] [] pos) (rdE w W (sIsi (isiQ pb pc px) f)) := by
  refine PE.imp (pe_callB (CallR.or (call_isi (X := X)) (call_isX hK)) b.gl b.mg b.bt (pa_cons ha (pa_cons hc pa_nil he2) he) b.n1 b.n2 he hpl) fun σ H Q ⟨g, ρ, S, rel, h⟩ => ?_
  refine rdE_imp (bindE rel h goodE) fun x H1 ⟨r1, S1, m1, s1, rel1, res1, _, h1⟩ => ?_
  split at h1
  rotate_left
  · exact h1.elim
  rename_i bb eb
  have lk := look_view rel1 res1.arg
  have usual : isiP pb pc (view S1 r1.1) = some bb → rIsi X.K [x, v] H1 Q ∨ rIsX w [x, v] H1 Q := fun eb => by
    obtain ⟨t, ty, ko⟩ := k.i.of lk eb
    exact .inl ⟨x, v, t, u, bb, rfl, cv, hK ▸ ty, hK ▸ ko, h1 _ _ (.same rel1 (.bl bb))⟩
  cases ev : view S1 r1.1 with
  | exc c fs =>
    cases fs with
    | nil =>
      rw [ev] at lk eb
      obtain ⟨a, rfl, hq⟩ := lk.exc0
      obtain ⟨ec, ko⟩ := k.x c bb eb
      exact .inr ⟨a, c, v, u, bb, rfl, hq, ec, cv, ko, h1 _ _ (.same rel1 (.bl bb))⟩
    | cons f1 fr => rw [ev] at eb; exact usual (by rw [ev]; exact eb)
  | _ => rw [ev] at eb; exact usual (by rw [ev]; exact eb)
def excIB (K : PySem.W.Frag) (D : Addr) : Bool := decide (PySem.W.findIn K (.ref D) "__getattribute__" = some (some (.builtin "BaseException.__getattribute__"))) && (decide (PySem.W.findIn K (.ref D) "__getattr__" = some none) && (decide (PySem.W.subIn K (.ref D) (.type "BaseException") = some true) && (PySem.W.hasDictIn K D &&
  (decide (PySem.W.findIn K (.ref D) "__class__" = some (some (.builtin "object.__class__"))) && (decide (PySem.W.specialIn K (.builtin "object.__class__") "__get__" = some (some (.builtin "getset_descriptor.__get__"))) && (decide (PySem.W.takesIn K (.builtin "object.__class__") = some true) && decide (PySem.W.mroIn K D (.type "object") = some true)))))))
theorem excIB_ok {K : PySem.W.Frag} {D : Addr} (h : excIB K D = true) : ExcC K D := by
  obtain ⟨h1, h⟩ := and2 h
  obtain ⟨h2, h⟩ := and2 h
  obtain ⟨h3, h⟩ := and2 h
  obtain ⟨h4, h⟩ := and2 h
  obtain ⟨h5, h⟩ := and2 h
  obtain ⟨h6, h⟩ := and2 h
  obtain ⟨h7, h8⟩ := and2 h
  exact ⟨of_decide_eq_true h1, of_decide_eq_true h2, of_decide_eq_true h3, h4, of_decide_eq_true h5, of_decide_eq_true h6, of_decide_eq_true h7, of_decide_eq_true h8⟩

/-! ### a tuple turned round -/
theorem sliceApplied_back {prog : Program} {wd : World} {A : Around} {E : Value → Shared → Prop} {s : Shared} {sl : Addr} {vs : Value} {n : Nat} {Q : Int × Int × Nat → Shared → Prop} (hs : s.heap.IsSliceOf sl .none .none vs) (ps : IsPart vs (some (-1)))
    (h : Q ((n : Int) - 1, -1, n) s) : wpAny (model prog wd) A (Builtin.Slice.sliceApplied (.ref sl) (pure (n : Int))) Q E s := by
  obtain ⟨os, hos, hcs, hds⟩ := id hs
  unfold Builtin.Slice.sliceApplied Builtin.Slice.sliceFields
  refine wpAny_bind (wpAny_bind (wpAny_field hos hds (x := .none) rfl (wpAny_bind (wpAny_field hos hds (x := .none) rfl (wpAny_bind (wpAny_field hos hds (x := vs) rfl (wpAny_pure ?_)))))))
  refine wpAny_bind (HT.slicePart_ ps ?_)
  show wpAny _ _ (if ((-1 : Int) == 0) = true then _ else _) _ _ s
  rw [if_neg (by decide)]
  refine wpAny_bind (slicePart_none (wpAny_bind (slicePart_none (wpAny_bind (wpAny_pure ?_)))))
  show wpAny _ _ (pure ((n : Int) - 1, (-1 : Int), Builtin.Slice.slicePlaces ((n : Int) - 1) (-1) (-1))) _ _ s
  have e : Builtin.Slice.slicePlaces ((n : Int) - 1) (-1) (-1) = n := by
    unfold Builtin.Slice.slicePlaces
    rw [if_neg (by decide)]
    by_cases z : n = 0
    · subst z; rfl
    · rw [if_pos (by omega)]
      simp
  rw [e]
  exact wpAny_pure h
theorem pick_back (xs : Array Value) : ((List.range xs.size).filterMap fun (k : Nat) => xs[((xs.size : Int) - 1 + (k : Int) * (-1)).toNat]?).toArray = xs.toList.reverse.toArray := by
  congr 1
  apply List.ext_getElem?
  intro i
  have all : ∀ n, n ≤ xs.size → (List.range n).filterMap (fun (k : Nat) => xs[((xs.size : Int) - 1 + (k : Int) * (-1)).toNat]?) = xs.toList.reverse.take n := by
    intro n
    induction n with
    | zero => intro _; rfl
    | succ n ih =>
      intro hn
      have e : ((xs.size : Int) - 1 + (n : Int) * (-1)).toNat = xs.size - 1 - n := by omega
      have lt : xs.size - 1 - n < xs.size := by omega
      have ln : n < xs.toList.reverse.length := by simp; omega
      rw [List.range_succ, List.filterMap_append, ih (by omega)]
      simp only [List.filterMap_cons, List.filterMap_nil]
      rw [e, Array.getElem?_eq_getElem lt]
      simp only
      rw [List.take_succ_eq_append_getElem ln]
      congr 1
      rw [List.getElem_reverse]
      simp
  rw [all xs.size (Nat.le_refl _), List.take_of_length_le (by simp)]
theorem getItem_back {prog : Program} {wd : World} {A : Around} {E : Value → Shared → Prop} {s : Shared} {t sl : Addr} {items : Array Value} {vs : Value} {Q : Value → Shared → Prop} (ht : IsTup s.heap t items) (hs : s.heap.IsSliceOf sl .none .none vs) (ps : IsPart vs (some (-1)))
    (h : Q (.ref s.heap.objs.size) { s with heap := s.heap.push { cls := .type "tuple", data := .seq items.toList.reverse.toArray } }) (hsz : items.size ≤ sizeLine) : wpAny (model prog wd) A (getItem (.ref t) (.ref sl)) Q E s := by
  have fits : sizeOk (.seq items.toList.reverse.toArray) := by
    show items.toList.reverse.toArray.size ≤ sizeLine
    simpa using hsz
  obtain ⟨os, hos, hcs, hds⟩ := id hs
  have hTs : s.TypeIs (.ref sl) "slice" := ⟨os, hos, hcs⟩
  unfold getItem
  try with_reducible refine wpAny_holding ?_
  first | refine wpAny_bind (wpAny_pure ?_) | skip
  refine wpAny_bind (wpAny_sequenceKey ht.typeIs (by decide) (wpAny_bind (wpAny_callSpecial?_slot (name := Str.ofString "__getitem__") ht.typeIs PyProof.Rows.slot_tuple_getitem (wpAny_call_entry PyProof.Rows.slot_tuple_getitem ht.typeIs entry_tuple_getitem ?_ (args_tuple_getitem _ _)))))
  show wpAny _ _ (Builtin.Tuple.tupleItemsOf (.ref t) >>= _) _ _ s
  refine wpAny_bind (tupleItemsOf_ ht (wpAny_bind (wpAny_typeOf hTs ?_)))
  rw [if_pos (by decide)]
  refine wpAny_bind (sliceApplied_back hs ps ?_)
  have hno : ¬ ((((items.size : Int) - 1) == 0 && (-1 : Int) == 1 && items.size == items.size) = true) := by
    intro q
    rw [Bool.and_eq_true, Bool.and_eq_true] at q
    exact absurd q.1.2 (by decide)
  show wpAny _ _ (if (((items.size : Int) - 1) == 0 && (-1 : Int) == 1 && items.size == items.size) = true then _ else _) _ _ s
  rw [if_neg hno, pick_back]
  first
    | exact wpAny_bind (m := Builtin.Tuple.tupleExact _) (wpAny_newObj_type (wpAny_pure ⟨_, rfl, wpAny_pure h⟩) fits)
    | exact wpAny_bind (m := Builtin.Tuple.tupleExact _) (wpAny_newObj_type (wpAny_bind (wpAny_pure (wpAny_pure ⟨_, rfl, wpAny_pure h⟩))) fits)
    | exact wpAny_bind (wpAny_bind (m := Builtin.Tuple.tupleExact _) (wpAny_newObj_type (wpAny_pure (wpAny_pure ⟨_, rfl, wpAny_pure h⟩)) fits))
    | exact wpAny_bind (wpAny_bind (m := Builtin.Tuple.tupleExact _) (wpAny_newObj_type (wpAny_pure ⟨_, rfl, wpAny_pure h⟩) fits))
def tRevT (K : PySem.W.Frag) (te : TE) : TE := fun σ H Q => te σ H fun x H1 => ∃ a xs, x = .ref a ∧ SqT K H1 a xs ∧ ∀ p, H1 p = none → Q (.ref p) (upd H1 p (.tup xs.reverse))
theorem pe_revT {e : Expr} {te : TE} {k : Nat} {p1 p2 p3 pos : Pos} (he : PE X e te) : PE X (.Subscript e (.Slice none none (some (.UnaryOp .USub (.Constant (.int 1) k p1) p2)) p3) pos) (tRevT X.K te) := by
  refine ⟨fun pins s σ H Q I h => Subscript_ (thn (he.run pins s σ H _ I h) fun v s1 ⟨x, H1, I1, r1, a, xs, ex, hx, q⟩ => ?_)⟩
  subst ex
  cases r1
  have step : PO X (some (.UnaryOp .USub (.Constant (.int 1) k p1) p2)) (tPart (tUn (rU fun i => .int (-i)) (tC (.int 1)))) := po_some (pe_un un_neg pe_int)
  refine wpAny_Slice (thn (po_none.run pins s1 σ H1 (fun o H2 => o = none ∧ H2 = H1) I1 ⟨rfl, rfl⟩) fun vl s2 ⟨l, H2, I2, pl, el, e2⟩ => ?_)
  subst el e2
  refine thn (po_none.run pins s2 σ H2 (fun o H3 => o = none ∧ H3 = H2) I2 ⟨rfl, rfl⟩) fun vu s3 ⟨u, H3, I3, pu, eu, e3⟩ => ?_
  subst eu e3
  refine thn (step.run pins s3 σ H3 (fun o H4 => o = some (-1) ∧ H4 = H3) I3 ⟨1, rfl, -1, rfl, rfl, rfl⟩) fun vs s4 ⟨o, H4, I4, ps, eo, e4⟩ => ?_
  subst eo e4
  cases pl
  cases pu
  have J : Inv X pins σ H4 { s4 with heap := s4.heap.push { cls := .type "slice", data := .fields #[.none, .none, vs] } } := I4.kept (t' := s4.toks) fun b ob q => Heap.get?_push_of_some _ q
  obtain ⟨its, r, ht, hz⟩ := J.tuple hx
  have hlen := r.length
  show wpAny (model X.prog X.w) X.A (subscriptTail e (.Slice none none (some (.UnaryOp .USub (.Constant (.int 1) k p1) p2)) p3) (.ref a) (.ref s4.heap.objs.size)) (EP X pins σ Q) X.xe { s4 with heap := s4.heap.push { cls := .type "slice", data := .fields #[.none, .none, vs] } }
  refine tail_any (ops := [.ref a, .ref s4.heap.objs.size]) ht.typeIs PyProof.Rows.slot_tuple_getitem.lookup ?_ (by with_unfolding_all rfl)
  refine getItem_back ht (Heap.IsSliceOf.new _ .none .none vs) ps ?_ (by rw [List.size_toArray]; omega)
  refine ⟨.ref _, _, J.laid (t' := s4.toks) (o := .tup xs.reverse) (fun b ob q => Heap.get?_push_of_some _ q) (Nat.le_refl _) ?_, rfl, q _ (J.hok.fresh (Nat.le_refl _))⟩
  exact ⟨by rw [List.length_reverse]; exact hz, its.reverse, r.reverse, IsTup.new _ _⟩
def oRevT (a : RV) (S : Store) : Option RV := match view S a.1 with
  | .tup ds => some (.tup ds.reverse, .sh)
  | _ => none
theorem e_revT {e : Expr} {f : SE} {k : Nat} {p1 p2 p3 pos : Pos} (hK : X.K = w.K) (he : PE X e (rdE w W f)) : PE X (.Subscript e (.Slice none none (some (.UnaryOp .USub (.Constant (.int 1) k p1) p2)) p3) pos) (rdE w W (sOp1 oRevT f)) := by
  refine PE.imp (pe_revT he) fun σ H Q ⟨g, ρ, S, rel, h⟩ => ?_
  refine rdE_imp (bindE rel h goodE) fun v H1 ⟨r1, S1, m1, s1, rel1, res1, _, h1⟩ => ?_
  obtain ⟨q, e1, h4⟩ := post_opt h1
  have lk := look_view rel1 res1.arg
  unfold oRevT at e1
  split at e1
  · rename_i ds ea
    rw [ea] at lk
    cases e1
    obtain ⟨p, vs, rfl, hp, rp⟩ := lk.tup
    exact ⟨p, vs, rfl, hK ▸ hp, fun t ht => h4 _ _ (.tup rel1 (Reps.reverse rp) ht)⟩
  · cases e1
end
end DL

set_option maxRecDepth 100000
set_option maxHeartbeats 4000000
/-! The value layer: == of rows of whatever things, as far as their parts are looked at; count and index of truths; upper; str of a number. -/
namespace DL
open PySem PySem.Spec PyProof.Rows L2
section
variable {w : Wd} {W : WX} {X : Cx}
/-! ### == of rows, part by part -/
theorem vals_take {xs : List V} {us : List Value} (r : Vals xs us) (n : Nat) : Vals (xs.take n) (us.take n) := by
  induction r generalizing n with
  | nil => simp; exact .nil
  | cons a t ih =>
    cases n with
    | zero => exact .nil
    | succ n => exact .cons a (ih n)
/-- what is asked of two tuples -/
def rTupX (K : PySem.W.Frag) (neg : Bool) : R2 := fun x y H Q => ∃ a b xs ys ds es, x = .ref a ∧ y = .ref b ∧ SqT K H a xs ∧ SqT K H b ys ∧ DpAll K H (xs.take ys.length) ds ∧ DpAll K H (ys.take xs.length) es ∧ PyData.canLayAll0 ds = true ∧ PyData.canLayAll0 es = true ∧ PyData.depthAll ds ≤ 180 ∧
  Q (.bl (xor neg (PyData.eqvAll ds es && xs.length == ys.length))) H
theorem tupX_at {pins : List (Addr × Obj)} {σ : L2.St} {H : Hp} {s : Shared} (c : CxR X) (I : Inv X pins σ H s) {a b : Addr} {xs ys : List V} {ds es : List PyData} (ha : SqT X.K H a xs) (hb : SqT X.K H b ys) (hd : DpAll X.K H (xs.take ys.length) ds) (he : DpAll X.K H (ys.take xs.length) es)
    (ld : PyData.canLayAll0 ds = true) (le : PyData.canLayAll0 es = true) (dd : PyData.depthAll ds ≤ 180) : ∃ (i1 i2 : Array Value) (e : Nat → Bool), s.heap.IsTuple a i1 ∧ s.heap.IsTuple b i2 ∧ (∀ j (h1 : j < i1.size) (h2 : j < i2.size), SeqAt.EqAt X.A.in1 s i1[j] i2[j] (e j)) ∧
      ((List.range (min i1.size i2.size)).all e && i1.size == i2.size) = (PyData.eqvAll ds es && xs.length == ys.length) := by
  obtain ⟨its, r1, p1, _⟩ := I.tuple ha
  obtain ⟨jts, r2, p2, _⟩ := I.tuple hb
  have l1 := r1.length
  have l2 := r2.length
  obtain ⟨as, q1⟩ := Dp.readsAll I ds _ _ hd (vals_take r1 ys.length)
  obtain ⟨bs, q2⟩ := Dp.readsAll I es _ _ he (vals_take r2 xs.length)
  have n1 : ds.length = min ys.length its.length := by
    have z := SeqAt.ReadsAll.length _ _ _ q1
    rw [List.length_take] at z
    exact z.symm
  have n2 : es.length = min xs.length jts.length := by
    have z := SeqAt.ReadsAll.length _ _ _ q2
    rw [List.length_take] at z
    exact z.symm
  refine ⟨its.toArray, jts.toArray, SeqAt.pairEq ds es, p1, p2, fun j h1 h2 => ?_, ?_⟩
  · have k1 : j < (its.take ys.length).length := by rw [List.length_take]; simp at h1 h2; omega
    have k2 : j < (jts.take xs.length).length := by rw [List.length_take]; simp at h1 h2; omega
    have un : X.A.in1.units + min (PyData.depthAll ds) (PyData.depthAll es) < cLine := by
      show X.A.units + 1 + _ < _
      have := c.un
      omega
    have z := SeqAt.eqAt_readsAll ds es X.A.in1 s _ _ _ _ q1 q2 ld le un j k1 k2
    simpa using z
  · have e1 : min its.toArray.size jts.toArray.size = ds.length := by rw [List.size_toArray, List.size_toArray]; omega
    rw [e1, SeqAt.eqvAll_same_length (by omega), List.size_toArray, List.size_toArray, l1, l2]
theorem op_eqTX (c : CxR X) : OpR X (compareOp .Eq) (rTupX X.K false) := by
  intro pins s σ H x y v u Q I rx ry ⟨a, b, xs, ys, ds, es, ex, ey, ha, hb, hd, he, ld, le, dd, q⟩
  subst ex ey
  cases rx
  cases ry
  obtain ⟨i1, i2, e, p1, p2, at_, eq⟩ := tupX_at c I ha hb hd he ld le dd
  rw [Bool.false_xor, ← eq] at q
  exact SeqAt.RcAt.tuples p1 p2 (by have := c.un; omega) at_ _ _ _ _ ⟨.bl _, H, I, rfl, q⟩
theorem op_neTX (c : CxR X) : OpR X (compareOp .NotEq) (rTupX X.K true) := by
  intro pins s σ H x y v u Q I rx ry ⟨a, b, xs, ys, ds, es, ex, ey, ha, hb, hd, he, ld, le, dd, q⟩
  subst ex ey
  cases rx
  cases ry
  obtain ⟨i1, i2, e, p1, p2, at_, eq⟩ := tupX_at c I ha hb hd he ld le dd
  rw [Bool.true_xor, ← eq] at q
  exact SeqAt.RcNeAt.tuples p1 p2 (by have := c.un; omega) at_ _ _ _ _ ⟨.bl _, H, I, rfl, q⟩
/-- two lists of unlike lengths -/
def rLenX (K : PySem.W.Frag) (neg : Bool) : R2 := fun x y H Q => ∃ a b xs ys, x = .ref a ∧ y = .ref b ∧ SqL K H a xs ∧ SqL K H b ys ∧ xs.length ≠ ys.length ∧ Q (.bl neg) H
theorem op_eqLX (c : CxR X) : OpR X (compareOp .Eq) (rLenX X.K false) := by
  intro pins s σ H x y v u Q I rx ry ⟨a, b, xs, ys, ex, ey, ha, hb, ne, q⟩
  subst ex ey
  cases rx
  cases ry
  obtain ⟨its, r1, p1, _⟩ := I.list ha
  obtain ⟨jts, r2, p2, _⟩ := I.list hb
  have l1 := r1.length
  have l2 := r2.length
  exact SeqAt.RcAt.lists_lengths p1.isList p2.isList (by simp [bne_iff_ne]; omega) (by have := c.un; omega) _ _ _ _ ⟨.bl _, H, I, rfl, q⟩
theorem op_neLX (c : CxR X) : OpR X (compareOp .NotEq) (rLenX X.K true) := by
  intro pins s σ H x y v u Q I rx ry ⟨a, b, xs, ys, ex, ey, ha, hb, ne, q⟩
  subst ex ey
  cases rx
  cases ry
  obtain ⟨its, r1, p1, _⟩ := I.list ha
  obtain ⟨jts, r2, p2, _⟩ := I.list hb
  have l1 := r1.length
  have l2 := r2.length
  exact SeqAt.RcNeAt.lists_lengths p1.isList p2.isList (by simp [bne_iff_ne]; omega) (by have := c.un; omega) _ _ _ _ ⟨.bl _, H, I, rfl, q⟩
def rEqX (K : PySem.W.Frag) : R2 := fun x y H Q => rEqP K x y H Q ∨ rTupX K false x y H Q ∨ rLenX K false x y H Q
def rNeX (K : PySem.W.Frag) : R2 := fun x y H Q => rNeP K x y H Q ∨ rTupX K true x y H Q ∨ rLenX K true x y H Q
theorem op_eqX (c : CxR X) : OpR X (compareOp .Eq) (rEqX X.K) := (op_eqP c).or ((op_eqTX c).or (op_eqLX c))
theorem op_neX (c : CxR X) : OpR X (compareOp .NotEq) (rNeX X.K) := (op_neP c).or ((op_neTX c).or (op_neLX c))
def eqX (neg : Bool) (x y : D) : Option RV := match x, y with
  | .tup xs, .tup ys => if plains (xs.take ys.length) = true ∧ plains (ys.take xs.length) = true ∧ deps (xs.take ys.length) ≤ 180 then some (.bl (xor neg (deqs (xs.take ys.length) (ys.take xs.length) && xs.length == ys.length)), .sh) else none
  | .lst xs, .lst ys => if xs.length ≠ ys.length then some (.bl neg, .sh) else none
  | _, _ => none
def oEqX (a b : RV) (S : Store) : Option RV := (oEq a b S).or (eqX false (view S a.1) (view S b.1))
def oNeX (a b : RV) (S : Store) : Option RV := (oNe a b S).or (eqX true (view S a.1) (view S b.1))
theorem eqX_ok {neg : Bool} {g : G} {ρ : Loc} {S : Store} {σ : L2.St} {H : Hp} {a b : RV} {x y : V} {q : RV} {Q : VK} (rel : Rel w g ρ S σ H) (ha : Arg w g.m g.Z H a x) (hb : Arg w g.m g.Z H b y) (e : eqX neg (view S a.1) (view S b.1) = some q) (h : ∀ v H', ROk w g H ρ σ q S v H' → Q v H') :
    rTupX w.K neg x y H Q ∨ rLenX w.K neg x y H Q := by
  have la := look_view rel ha
  have lb := look_view rel hb
  unfold eqX at e
  split at e
  · rename_i xs ys ea eb
    rw [ea] at la
    rw [eb] at lb
    split at e
    · rename_i c
      cases e
      obtain ⟨p, vs, rfl, hp, rp⟩ := la.tup
      obtain ⟨q, us, rfl, hq, rq⟩ := lb.tup
      refine .inl ⟨p, q, vs, us, pys (xs.take ys.length), pys (ys.take xs.length), rfl, rfl, hp, hq, ?_, ?_, pys_lay _, pys_lay _, by rw [pys_dep]; exact c.2.2, ?_⟩
      · rw [← rq.length]; exact (rp.take _).dp c.1
      · rw [← rp.length]; exact (rq.take _).dp c.2.1
      · rw [pys_eqv _ _ c.1 c.2.1, ← rp.length, ← rq.length]
        exact h _ _ (.same rel (.bl _))
    · cases e
  · rename_i xs ys ea eb
    rw [ea] at la
    rw [eb] at lb
    split at e
    · rename_i c
      cases e
      obtain ⟨p, vs, rfl, hp, rp⟩ := la.lst
      obtain ⟨q, us, rfl, hq, rq⟩ := lb.lst
      exact .inr ⟨p, q, vs, us, rfl, rfl, .of hp, .of hq, by rw [← rp.length, ← rq.length]; exact c, h _ _ (.same rel (.bl _))⟩
    · cases e
  · cases e
theorem ok_eqX : OkOp2 w (rEqX w.K) oEqX := by
  intro g ρ S σ H a b x y q Q rel ha hb e h
  unfold oEqX at e
  cases e1 : oEq a b S with
  | some z => rw [e1] at e; cases e; exact .inl (ok_eq g ρ S σ H a b x y q Q rel ha hb e1 h)
  | none => rw [e1] at e; exact .inr (eqX_ok rel ha hb e h)
theorem ok_neX : OkOp2 w (rNeX w.K) oNeX := by
  intro g ρ S σ H a b x y q Q rel ha hb e h
  unfold oNeX at e
  cases e1 : oNe a b S with
  | some z => rw [e1] at e; cases e; exact .inl (ok_ne g ρ S σ H a b x y q Q rel ha hb e1 h)
  | none => rw [e1] at e; exact .inr (eqX_ok rel ha hb e h)

/-! ### count, index of truths -/
theorem vals_bl : ∀ {bs : List Bool} {us : List Value}, Vals (bs.map V.bl) us → us = bs.map Value.bool
  | [], _, .nil => rfl
  | _ :: _, _, .cons r t => by
    have ih := vals_bl t
    have e : _ = Value.bool _ := r
    rw [List.map_cons, ← ih, e]
def isB (k : Bool) (u : Value) : Bool := match u with
  | .bool b => b == k
  | _ => false
def rCntB (K : PySem.W.Frag) : V → List V → Hp → VK → Prop := fun x xs H Q => ∃ (p : Addr) (bs : List Bool) (k : Bool), x = .ref p ∧ xs = [.bl k] ∧ SqL K H p (bs.map V.bl) ∧ Q (.int (bs.count k : Nat)) H
theorem mt_cntB : MtR X "list.count" (rCntB X.K) := by
  intro pins s σ H x xs v us Q I rx rxs ⟨p, bs, k, ex, exs, hs, q⟩
  subst ex exs
  cases rx
  cases rxs with
  | cons ru rt =>
    cases rt
    cases ru
    obtain ⟨its, rv, ⟨⟨cls, dd, data, sl⟩, n, ho, hc, hdn, hd⟩, hlen⟩ := I.list hs
    simp only at hc hd
    subst hc hd
    have hi := vals_bl rv
    subst hi
    refine call_meets PySem.F.slot_list_count ⟨_, ho, rfl⟩ PySem.F.entry_list_count (PySem.F.args_list_count_2 _ _) (SeqAt.list_countAt p (bs.map Value.bool).toArray n dd sl (.bool k) (isB k)) ⟨ho, fun y hy => ?_, ?_⟩
    · have hy' : y ∈ bs.map Value.bool := by simpa using hy
      obtain ⟨b, _, rfl⟩ := List.mem_map.mp hy'
      exact SeqAt.EqAt.bool_bool b k
    · have ec : (bs.map Value.bool).toArray.toList.countP (isB k) = bs.count k := by
        show (bs.map Value.bool).countP (isB k) = _
        rw [List.countP_map]
        rfl
      refine ⟨.int (bs.count k : Nat), H, I.tok _, ⟨s.toks, ?_⟩, q⟩
      show Value.int (((bs.map Value.bool).toArray.toList.countP (isB k) : Nat) : Int) s.toks = Value.int ((bs.count k : Nat) : Int) s.toks
      rw [ec]
def sCntB (f : SE) (fs : SA) : SE := fun ρ S => (f ρ S).bind fun r S1 => match blsOf r S1 with
  | some bs => (fs ρ S1).bind fun rs S2 => (match rs with
    | [(.bl k, _)] => if blsOf r S2 = some bs then .ok (.int (bs.count k : Nat), .sh) S2 else .bad
    | _ => .bad)
  | none => .bad
theorem tyV_L {H : Hp} {K : PySem.W.Frag} {p : Addr} {xs : List V} (h : SqL K H p xs) : tyV K "list" (.ref p) H := .inl ⟨rfl, _, h⟩
theorem e_cntB {o e : Expr} {f : SE} {fs : SA} {apos cpos : Pos} (hK : X.K = w.K) (mc : MC X o "count" apos e [] cpos) (ho : PE X o (rdE w W f)) (he : PA X [e] (rdA w W fs)) : PE X (.Call (.Attribute o "count" apos) [e] [] cpos) (rdE w W (sCntB f fs)) := by
  refine PE.imp (pe_bm PySem.F.plainAttrs_list PySem.F.slot_list_count PySem.F.type_list_count mt_cntB ho he mc.base mc.few mc.line mc.star mc.plain) fun σ H Q ⟨g, ρ, S, rel, h⟩ => ?_
  refine rdE_imp (bindE rel h goodE) fun x H1 ⟨r1, S1, m1, s1, rel1, res1, _, h1⟩ => ?_
  split at h1
  rotate_left
  · exact h1.elim
  rename_i bs eb
  obtain ⟨p, rfl, hp⟩ := Look.blsD rel1 res1.arg eb
  refine ⟨tyV_L (hK ▸ hp), rdA_imp (bindA rel1 h1 goodE) fun vs H2 ⟨rs, S2, m2, s2, rel2, as, _, h2⟩ => ?_⟩
  split at h2
  rotate_left
  · exact h2.elim
  rename_i k fl _
  split at h2
  rotate_left
  · exact h2.elim
  rename_i eb2
  obtain ⟨p', e', hp2⟩ := Look.blsD rel2 (s2.arg res1.arg) eb2
  cases e'
  cases as with
  | cons a t =>
    cases t
    have ly : Look w m2 g.Z H2 (.bl k) _ := a.read.look
    exact ⟨p, bs, k, rfl, by rw [ly.bl], hK ▸ hp2, h2 _ _ (.same rel2 (.int _))⟩
theorem idxOf_le : ∀ {bs : List Bool} {m : Nat} (h : m < bs.length), bs.idxOf bs[m] ≤ m
  | _ :: _, 0, _ => by simp
  | b :: bs, m + 1, h => by
    have h2 : m < bs.length := by simpa using h
    rw [List.getElem_cons_succ, List.idxOf_cons]
    have ih := idxOf_le (bs := bs) (m := m) h2
    cases (b == bs[m]'h2) <;> simp <;> omega
def sIdxB (f : SE) (fs : SA) : SE := fun ρ S => (f ρ S).bind fun r S1 => match blsOf r S1 with
  | some bs => (fs ρ S1).bind fun rs S2 => (match rs with
    | [(.bl k, _)] => if blsOf r S2 = some bs ∧ k ∈ bs then .ok (.int (bs.idxOf k : Nat), .sh) S2 else .bad
    | _ => .bad)
  | none => .bad
theorem e_idxB {o e : Expr} {f : SE} {fs : SA} {apos cpos : Pos} (hK : X.K = w.K) (mc : MC X o "index" apos e [] cpos) (ho : PE X o (rdE w W f)) (he : PA X [e] (rdA w W fs)) : PE X (.Call (.Attribute o "index" apos) [e] [] cpos) (rdE w W (sIdxB f fs)) := by
  refine PE.imp (pe_bm PySem.F.plainAttrs_list PySem.F.slot_list_index PySem.F.type_list_index mt_index ho he mc.base mc.few mc.line mc.star mc.plain) fun σ H Q ⟨g, ρ, S, rel, h⟩ => ?_
  refine rdE_imp (bindE rel h goodE) fun x H1 ⟨r1, S1, m1, s1, rel1, res1, _, h1⟩ => ?_
  split at h1
  rotate_left
  · exact h1.elim
  rename_i bs eb
  obtain ⟨p, rfl, hp⟩ := Look.blsD rel1 res1.arg eb
  refine ⟨tyV_L (hK ▸ hp), rdA_imp (bindA rel1 h1 goodE) fun vs H2 ⟨rs, S2, m2, s2, rel2, as, _, h2⟩ => ?_⟩
  split at h2
  rotate_left
  · exact h2.elim
  rename_i k fl _
  split at h2
  rotate_left
  · exact h2.elim
  rename_i cond
  obtain ⟨eb2, mem⟩ := cond
  obtain ⟨p', e', hp2⟩ := Look.blsD rel2 (s2.arg res1.arg) eb2
  cases e'
  cases as with
  | cons a t =>
    cases t
    have ly : Look w m2 g.Z H2 (.bl k) _ := a.read.look
    have lt : bs.idxOf k < bs.length := List.idxOf_lt_length_of_mem mem
    have at_ : bs[bs.idxOf k]? = some k := by rw [List.getElem?_eq_getElem lt]; exact congrArg some (List.getElem_idxOf lt)
    refine ⟨p, bs.map V.bl, .bl k, bs.idxOf k, .bl k, rfl, by rw [ly.bl], hK ▸ hp2, rfl, ?_, by rw [List.getElem?_map, at_]; rfl, by simp [eqV], fun m z' hm hz => ?_, h2 _ _ (.same rel2 (.int _))⟩
    · rw [List.all_map]; simp [flatV, Function.comp]
    · rw [List.getElem?_map] at hz
      obtain ⟨b, hb, rfl⟩ := Option.map_eq_some_iff.mp hz
      obtain ⟨hl, e⟩ := List.getElem?_eq_some_iff.mp hb
      have hn : bs[m] ≠ k := fun z => by
        have q : bs.idxOf k ≤ m := by
          rw [← z]
          exact idxOf_le hl
        omega
      simp only [eqV]
      rw [← e]
      simpa using hn

/-! ### x.upper(), str(i) -/
noncomputable def sUpper (f : SE) : SE := fun ρ S => (f ρ S).bind fun r S1 => match r.1 with
  | .str x => if x.length ≤ 1000 then (match strOf (Txt.upper (s2 x)) with
    | some y => .ok (.str y, .sh) S1
    | none => .bad) else .bad
  | _ => .bad
theorem e_upper {o : Expr} {f : SE} {apos cpos : Pos} (hbase : attributeBase o "upper" X.env (eval o X.env) = eval o X.env) (hline : (apos.endLine == cpos.line) = true) (ho : PE X o (rdE w W f)) : PE X (.Call (.Attribute o "upper" apos) [] [] cpos) (rdE w W (sUpper f)) := by
  refine PE.imp (pe_bm0 PySem.F.plainAttrs_str PySem.F.slot_str_upper PySem.F.type_str_upper mt_upper ho hbase hline) fun σ H Q ⟨g, ρ, S, rel, h⟩ => ?_
  refine rdE_imp (bindE rel h goodE) fun x H1 ⟨r1, S1, m1, s1, rel1, res1, _, h1⟩ => ?_
  split at h1
  rotate_left
  · exact h1.elim
  rename_i z ez
  have lk := res1.arg.read.look
  rw [ez] at lk
  cases lk.str
  split at h1
  rotate_left
  · exact h1.elim
  rename_i c
  split at h1
  rotate_left
  · exact h1.elim
  rename_i y ey
  refine ⟨rfl, _, rfl, rfl, by rw [s2_len]; omega, ?_⟩
  rw [← of_strOf ey]
  exact h1 _ _ (.same rel1 (.str _))
def oStrI (a : RV) (_ : Store) : Option RV := match a.1 with
  | .int i => if i.natAbs.log2 < 1920 then some (.str (toString i), .sh) else none
  | _ => none
theorem ok_strI : OkOp1 w (fun x H Q => (fun xs H Q => ∃ i, xs = [.int i] ∧ i.natAbs.log2 < 1920 ∧ Q (.str (toString i)) H) [x] H Q) oStrI := by
  intro g ρ S σ H a x q Q rel ha e k
  have l := ha.read.look
  unfold oStrI at e
  split at e
  · rename_i i hd
    rw [hd] at l
    split at e
    · rename_i c
      cases e
      cases l.int
      exact ⟨i, rfl, c, k _ _ (.same rel (.str _))⟩
    · cases e
  · cases e
end
end DL

set_option maxRecDepth 100000
set_option maxHeartbeats 4000000
/-! The value layer: for my program's derivations, defs that may raise. -/
namespace DL
open PySem L2
section
variable {P : Program} {pw : World} {K : PySem.W.Frag} {mg : Str → Option Value} {base : Heap} {w : Wd} {W : WX} {X : Cx} {k np c : Nat} {f : Addr} {fd : FuncData} {ps : List Str} {F : SF}
theorem fnG_of (Y : FnY P pw K mg base k f fd ps (spY w np F)) : FnG P pw K mg base k f fd ps (spF w np F) := by
  have up : ∀ {vs : List V} {H : Hp} {Q : VK} {E : XK}, spF w np F vs H Q E → spY w np F vs H Q (fun _ _ _ => False) := fun {vs H Q E} ⟨g, rs, S, e, a, l, p⟩ => ⟨g, rs, S, e, a, l, by
    cases q : F rs S with
    | ok r S' => rw [q] at p; exact p
    | exc x S' => rw [q] at p; exact p.elim
    | bad => rw [q] at p; exact p.elim⟩
  refine ⟨fun vs H Q E h => Y.len _ _ _ _ (up h), fun A outer s H args us vs Q E hg hr e0 b r h => codeAny_mono (Y.run A outer s H args us vs Q _ hg hr e0 b r (up h)) fun r s' hq => ?_⟩
  cases r with
  | error e =>
    obtain ⟨_, _, _, _, _, _, _, _, _, _, _, _, z⟩ := hq
    exact z.elim
  | ok fl => cases fl <;> exact hq
theorem bad_fnY : FnY P pw K mg base k f fd ps (spY w np fun _ _ => .bad) :=
  ⟨fun vs H Q E ⟨_, _, _, _, _, _, h⟩ => h.elim, fun A outer s H args us vs Q E _ _ _ _ _ ⟨_, _, _, _, _, _, h⟩ => h.elim⟩
theorem bad_initY : FnY P pw K mg base k f fd ps (spIY w c np fun _ _ => .bad) :=
  ⟨fun vs H Q E ⟨_, _, _, _, _, _, _, _, _, _, _, _, h⟩ => h.elim, fun A outer s H args us vs Q E _ _ _ _ _ ⟨_, _, _, _, _, _, _, _, _, _, _, _, h⟩ => h.elim⟩
theorem bad_fnO : FnOk P pw K mg base CX0 k f fd ps (spF w np fun _ _ => .bad) :=
  ⟨fun vs H Q E ⟨_, _, _, _, _, _, h⟩ => h.elim, fun A outer s H args us vs Q E _ _ _ _ ⟨_, _, _, _, _, _, h⟩ => h.elim⟩
end
section
variable {w : Wd} {W : WX} {X : Cx}
theorem stForY {iter tg : Expr} {body : List Stmt} {ns : List Nat} {f : SI} {t : Tgt} {b : SS} {pos : Pos} (hp : PassesOwn (model X.prog X.w) X.A X.env X.xe) (hi : PI X tg iter (rdI w W f)) (hg : PG X tg (rdG w ns t)) (hb : PSs X body (rdS w W b)) (hc : X.calm = true := by rfl)
    (hs : ∀ x, foldedSetIterable iter X.env x = pure x := by intro _; rfl) : PS X (.For tg iter body [] pos) (rdS w W (sFor f t b)) := st_for hp hc hs hi hg hb
theorem stWhileY {c : Expr} {body : List Stmt} {t : ST} {b : SS} {pos : Pos} (hp : PassesOwn (model X.prog X.w) X.A X.env X.xe) (hc : PT X c (rdT w W t)) (hb : PSs X body (rdS w W b)) : PS X (.While c body [] pos) (rdS w W (sWhile t b)) := st_while hp hc hb
/-- exceptions' classes that a clause names -/
def emB (K : PySem.W.Frag) (cl : Nat → Addr) (cs : List Nat) (u : Value) (em : Nat → Option Bool) : Bool := cs.all fun c => decide (PySem.W.exmOne K (.ref (cl c)) u = em c)
theorem emB_ok {K : PySem.W.Frag} {cl : Nat → Addr} {cs : List Nat} {u : Value} {em : Nat → Option Bool} (hc : ∀ c b, em c = some b → c ∈ cs) (h : emB K cl cs u em = true) : ∀ c b, em c = some b → PySem.W.exmOne K (.ref (cl c)) u = some b := fun c b e => by
  have := of_decide_eq_true (List.all_eq_true.mp h c (hc c b e))
  rw [this, e]
def isxB (K : PySem.W.Frag) (cl : Nat → Addr) (cs : List Nat) (u : Value) (px : Nat → Option Bool) : Bool := cs.all fun c => excIB K (cl c) && decide (PySem.W.kitOne K (.ref (cl c)) u = px c)
theorem isxB_ok {K : PySem.W.Frag} {cl : Nat → Addr} {cs : List Nat} {u : Value} {pb : String → Option Bool} {pc px : Nat → Option Bool} (i : IsiOk ⟨K, cl⟩ u pb pc) (hc : ∀ c b, px c = some b → c ∈ cs) (h : isxB K cl cs u px = true) : IsxOk ⟨K, cl⟩ u pb pc px :=
  ⟨i, fun c k e => by
    obtain ⟨h1, h2⟩ := and2 (List.all_eq_true.mp h c (hc c k e))
    exact ⟨excIB_ok h1, by rw [of_decide_eq_true h2, e]⟩⟩
def methB (K : PySem.W.Frag) (C : Addr) (m : Str) (g : Addr) : Bool := decide (PySem.W.findIn K (.ref C) m = some (some (.ref g))) && (PySem.W.isFn K (.ref g) && PySem.W.keepIn K (.ref g))
theorem methB_ok {K : PySem.W.Frag} {C : Addr} {m : Str} {g : Addr} (h : methB K C m g = true) : Meth K C m g := by
  obtain ⟨h1, h⟩ := and2 h
  obtain ⟨h2, h3⟩ := and2 h
  exact ⟨of_decide_eq_true h1, h2, h3⟩
end
end DL

set_option maxRecDepth 100000
set_option maxHeartbeats 4000000
/-! The value layer: list(range(..)), tuple(range(..)). -/
namespace DL
open PySem L2
section
variable {w : Wd} {W : WX} {X : Cx}
theorem reps_rg {m : List Addr} {Z : Addr → Prop} {H : Hp} (a : Int) : ∀ ns : List Nat, Reps w m Z H (ns.map fun i => D.int (a + (i : Nat))) (ns.map fun i => V.int (a + (i : Nat)))
  | [] => .nil
  | n :: r => .cons (.int _) (reps_rg a r)
theorem reps_rng {m : List Addr} {Z : Addr → Prop} {H : Hp} (a b : Int) : Reps w m Z H (rngD a (b - a).toNat) (rgV a b) := reps_rg a _
def sLstRg1 (f : SE) : SE := fun ρ S => (f ρ S).bind fun r S1 => match r.1 with
  | .int n => if n ≤ 16777216 ∧ -(2 ^ 62) ≤ n then .ok (.lst (rngD 0 (n - 0).toNat), .own) S1 else .bad
  | _ => .bad
def sTupRg1 (f : SE) : SE := fun ρ S => (f ρ S).bind fun r S1 => match r.1 with
  | .int n => if n ≤ 16777216 ∧ -(2 ^ 62) ≤ n then .ok (.tup (rngD 0 (n - 0).toNat), .sh) S1 else .bad
  | _ => .bad
theorem rg_ok {n : Int} (c : n ≤ 16777216 ∧ -(2 ^ 62) ≤ n) : RgOk 0 n := ⟨by decide, by decide, c.2, by omega, by omega⟩
theorem e_lstRg1 {a : Expr} {f : SE} {p p2 pos pos2 : Pos} (b : BN X "list" (.type "list")) (b2 : BN X "range" (.type "range")) (ha : PE X a (rdE w W f)) (na : starEach [a] X.env = (false, eval a X.env) :: starEach [] X.env)
    (nb : starEach [.Call (.Name "range" p2) [a] [] pos2] X.env = (false, eval (.Call (.Name "range" p2) [a] [] pos2) X.env) :: starEach [] X.env) (hc : X.calm = true) : PE X (.Call (.Name "list" p) [.Call (.Name "range" p2) [a] [] pos2] [] pos) (rdE w W (sLstRg1 f)) := by
  refine PE.imp (pe_listRg hc b.gl b.mg (prg_1 b2.gl b2.mg ha na) nb) fun σ H Q ⟨g, ρ, S, rel, h⟩ => ?_
  refine rdE_imp (bindE rel h goodE) fun x H1 ⟨r1, S1, m1, s1, rel1, res1, _, h1⟩ => ?_
  split at h1
  rotate_left
  · exact h1.elim
  rename_i n en
  split at h1
  rotate_left
  · exact h1.elim
  rename_i c
  have lk := res1.arg.read.look
  rw [en] at lk
  exact ⟨n, lk.int, rg_ok c, fun q hq => h1 _ _ (.lst rel1 (reps_rng 0 n) hq)⟩
theorem e_tupRg1 {a : Expr} {f : SE} {p p2 pos pos2 : Pos} (b : BN X "tuple" (.type "tuple")) (b2 : BN X "range" (.type "range")) (ha : PE X a (rdE w W f)) (na : starEach [a] X.env = (false, eval a X.env) :: starEach [] X.env)
    (nb : starEach [.Call (.Name "range" p2) [a] [] pos2] X.env = (false, eval (.Call (.Name "range" p2) [a] [] pos2) X.env) :: starEach [] X.env) (hc : X.calm = true) : PE X (.Call (.Name "tuple" p) [.Call (.Name "range" p2) [a] [] pos2] [] pos) (rdE w W (sTupRg1 f)) := by
  refine PE.imp (pe_tupRg hc b.gl b.mg (prg_1 b2.gl b2.mg ha na) nb) fun σ H Q ⟨g, ρ, S, rel, h⟩ => ?_
  refine rdE_imp (bindE rel h goodE) fun x H1 ⟨r1, S1, m1, s1, rel1, res1, _, h1⟩ => ?_
  split at h1
  rotate_left
  · exact h1.elim
  rename_i n en
  split at h1
  rotate_left
  · exact h1.elim
  rename_i c
  have lk := res1.arg.read.look
  rw [en] at lk
  exact ⟨n, lk.int, rg_ok c, fun q hq => h1 _ _ (.tup rel1 (reps_rng 0 n) hq)⟩
end
end DL

set_option maxRecDepth 100000
set_option maxHeartbeats 2000000
/-! The value layer: dicts by keys or by pairs of keys: d[k], d[k] = v, k in d. -/
namespace DL
open PySem L2
section
variable {w : Wd} {m : List Addr} {Z : Addr → Prop} {H : Hp}
theorem dKeys_cons {d : D} {ds : List D} {p : List Key} (h : dKeys (d :: ds) = some p) : ∃ k ks, dKey d = some k ∧ dKeys ds = some ks ∧ p = k :: ks := by
  unfold dKeys at h
  split at h
  · rename_i k ks e1 e2
    cases h
    exact ⟨k, ks, e1, e2, rfl⟩
  · cases h
theorem keys_deq : ∀ {as bs : List D} {p q : List Key}, dKeys as = some p → dKeys bs = some q → deqs as bs = decide (p = q)
  | [], [], _, _, ha, hb => by cases ha; cases hb; rfl
  | [], b :: bs, _, _, ha, hb => by
    cases ha
    obtain ⟨k, ks, _, _, rfl⟩ := dKeys_cons hb
    simp [deqs]
  | a :: as, [], _, _, ha, hb => by
    cases hb
    obtain ⟨k, ks, _, _, rfl⟩ := dKeys_cons ha
    simp [deqs]
  | a :: as, b :: bs, _, _, ha, hb => by
    obtain ⟨k, ks, e1, e2, rfl⟩ := dKeys_cons ha
    obtain ⟨j, js, e3, e4, rfl⟩ := dKeys_cons hb
    rw [deqs, key_deq e1 e3, keys_deq e2 e4]
    simp
theorem keyT_deq {a b : D} {p q : List Key} (ha : dKeyT a = some p) (hb : dKeyT b = some q) : deq a b = decide (p = q) := by
  cases a with
  | tup as =>
    cases b with
    | tup bs => exact keys_deq ha hb
    | _ => cases hb
  | _ => cases ha
theorem reps_keys : ∀ {ds : List D} {vs : List V} {q : List Key}, dKeys ds = some q → Reps w m Z H ds vs → vs = q.map kV
  | [], _, _, h, r => by cases h; cases r; rfl
  | d :: ds, _, _, h, r => by
    obtain ⟨k, ks, e1, e2, rfl⟩ := dKeys_cons h
    cases r with
    | cons r1 r2 => rw [key_of (.inl r1) e1, reps_keys e2 r2]; rfl
/-- a pair of keys -/
def keyP : D → Bool
  | .tup ds => pairK ds
  | _ => false
theorem keyP_T {k : D} (h : keyP k = true) : ∃ q, dKeyT k = some q := by
  cases k with
  | tup ds =>
    simp only [keyP, pairK, Bool.and_eq_true] at h
    exact Option.isSome_iff_exists.mp h.2
  | _ => cases h
theorem keyP_of {k : D} {q : List Key} {v : V} (hp : keyP k = true) (e : dKeyT k = some q) (h : Look w m Z H k v) : ∃ b, v = .ref b ∧ H b = some (.tup (q.map kV)) := by
  cases k with
  | tup ds =>
    cases h.rep rfl with
    | tup hq r => exact ⟨_, rfl, by rw [← reps_keys e r]; exact hq⟩
    | gtup hq r n => exact absurd (show pairK ds = true from hp) (by rw [n]; decide)
    | box b => cases b
  | _ => cases hp
theorem RepT.get {k : D} {q : List Key} (hk : dKeyT k = some q) : ∀ {kvs : List (D × D)} {ks : List (List Key × V)}, RepT w m Z H kvs ks →
    (getK kvs k = none → L2.valV ks q = none) ∧ ∀ d, getK kvs k = some d → ∃ v, L2.valV ks q = some v ∧ Rep w m Z H d v
  | _, _, .nil => ⟨fun _ => rfl, fun _ e => by cases e⟩
  | _, _, .cons (k := a) (d := e) (q := p) (v := v) (kvs := kvs) (ks := ks) ha hv r => by
    have ih := RepT.get hk r
    rw [getK_cons, keyT_deq ha hk]
    by_cases h : p = q
    · rw [L2.valV_pos (by exact h)]
      simp only [h, decide_true, if_true]
      refine ⟨fun z => ?_, fun d z => ?_⟩
      · cases z
      · cases z
        exact ⟨v, rfl, hv⟩
    · rw [L2.valV_neg (by exact h)]
      simpa [h] using ih
theorem RepT.any {k : D} {q : List Key} (hk : dKeyT k = some q) : ∀ {kvs : List (D × D)} {ks : List (List Key × V)}, RepT w m Z H kvs ks → (kvs.any fun p => deq p.1 k) = ks.any fun kv => decide (kv.1 = q)
  | _, _, .nil => rfl
  | _, _, .cons ha hv r => by rw [List.any_cons, List.any_cons, keyT_deq ha hk, RepT.any hk r]
theorem RepT.length : ∀ {kvs : List (D × D)} {ks : List (List Key × V)}, RepT w m Z H kvs ks → kvs.length = ks.length
  | _, _, .nil => rfl
  | _, _, .cons _ _ r => by rw [List.length_cons, List.length_cons, RepT.length r]
theorem RepT.map {k d : D} {q : List Key} {v : V} (hk : dKeyT k = some q) (hv : Rep w m Z H d v) : ∀ {kvs : List (D × D)} {ks : List (List Key × V)}, RepT w m Z H kvs ks →
    RepT w m Z H (kvs.map fun p => if deq p.1 k = true then (p.1, d) else p) (ks.map fun kv => if kv.1 = q then (kv.1, v) else kv)
  | _, _, .nil => .nil
  | _, _, .cons (k := a) (d := e) (q := p) (v := u) ha hu r => by
    rw [List.map_cons, List.map_cons]
    have ih := RepT.map hk hv r
    rw [keyT_deq ha hk]
    by_cases h : p = q
    · simp only [h, decide_true, if_true]
      exact .cons (h ▸ ha) hv ih
    · simp only [h, decide_false, if_false, Bool.false_eq_true]
      exact .cons ha hu ih
theorem RepT.app : ∀ {kvs es : List (D × D)} {ks fs : List (List Key × V)}, RepT w m Z H kvs ks → RepT w m Z H es fs → RepT w m Z H (kvs ++ es) (ks ++ fs)
  | _, _, _, _, .nil, h => h
  | _, _, _, _, .cons a b r, h => .cons a b (RepT.app r h)
theorem RepT.put {kvs : List (D × D)} {ks : List (List Key × V)} {k d : D} {q : List Key} {v : V} (r : RepT w m Z H kvs ks) (hk : dKeyT k = some q) (hv : Rep w m Z H d v) : RepT w m Z H (setK kvs k d) (putK ks q v) := by
  unfold setK putK
  rw [RepT.any hk r]
  split
  · exact r.map hk hv
  · exact r.app (.cons hk hv .nil)
theorem Look.dt {kvs : List (D × D)} {v : V} (h : Look w m Z H (.dt kvs) v) : ∃ a ks, v = .ref a ∧ Rd H a (.dT ks) ∧ RepT w m Z H kvs ks := by
  rcases h with h | ⟨a, e, b⟩
  · cases h with
    | box b z n => cases b with | dt hr r => exact ⟨_, _, rfl, hr, r⟩
  · cases b with | dt hr r => exact ⟨_, _, e, hr, r⟩
end
section
variable {X : Cx} {w : Wd} {W : WX}
/-- what the dict holds at the key: nothing is said of what is no key -/
def findD (b : D) (k : D) : Option (Option D) := match b with
  | .dk kvs => if (dKey k).isSome = true then some (getK kvs k) else none
  | .dt kvs => if keyP k = true then some (getK kvs k) else none
  | _ => none
theorem find_get {m : List Addr} {Z : Addr → Prop} {H : Hp} {b k : D} {x y : V} {o : Option D} (hb : Look w m Z H b x) (hk : Look w m Z H k y) (e : findD b k = some o) :
    ∃ a u, x = .ref a ∧ DGet H a y u ∧ (o = none → u = none) ∧ ∀ d, o = some d → ∃ v, u = some v ∧ Rep w m Z H d v := by
  unfold findD at e
  split at e
  · rename_i kvs
    split at e
    · rename_i c
      cases e
      obtain ⟨p, hp⟩ := Option.isSome_iff_exists.mp c
      obtain ⟨t, ks, rfl, hr, r⟩ := hb.dk
      exact ⟨t, _, rfl, .inl ⟨ks, p, hr, key_of hk hp, rfl⟩, (r.get hp).1, fun d e1 => (r.get hp).2 d e1⟩
    · cases e
  · rename_i kvs
    split at e
    · rename_i c
      cases e
      obtain ⟨p, hp⟩ := keyP_T c
      obtain ⟨t, ks, rfl, hr, r⟩ := hb.dt
      obtain ⟨q, rfl, hq⟩ := keyP_of c hp hk
      exact ⟨t, _, rfl, .inr ⟨ks, p, q, hr, rfl, hq, rfl⟩, (r.get hp).1, fun d e1 => (r.get hp).2 d e1⟩
    · cases e
  · cases e
/-- d[k] -/
def oDGetA (a b : RV) (S : Store) : Option RV := match findD (view S a.1) b.1 with
  | some (some d) => some (d, .sh)
  | _ => none
theorem ok_dgetA : OkOp2 w rDG oDGetA := by
  intro g ρ S σ H a b x y q Q rel ha hb e k
  unfold oDGetA at e
  split at e
  · rename_i d hd
    cases e
    obtain ⟨t, u, rfl, hg, _, h2⟩ := find_get (look_view rel ha) hb.read.look hd
    obtain ⟨v, rfl, rv⟩ := h2 d rfl
    exact ⟨t, v, rfl, hg, k _ _ (.same rel rv)⟩
  · cases e
theorem e_dgetA {o i : Expr} {f u : SE} {pos : Pos} (hu : X.A.units + 1 < cLine) (hs : NoSl i) (ho : PE X o (rdE w W f)) (hi : PE X i (rdE w W u)) : PE X (.Subscript o i pos) (rdE w W (sOp2 oDGetA f u)) :=
  PE.imp (pe_dget hu ho hi hs) fun _ _ _ h => rd_op2 (r := rDG) ok_dgetA h
/-- k in d -/
def rInD (neg : Bool) : R2 := fun x y H Q => ∃ a o, y = .ref a ∧ DGet H a x o ∧ Q (.bl (if neg then !o.isSome else o.isSome)) H
theorem op_inD (hu : X.A.units + 1 < cLine) : OpR X (compareOp .In) (rInD false) := by
  intro pins s σ H x y v u Q I rx ry ⟨a, o, ey, hg, q⟩
  subst ey
  cases (show u = Value.ref a from ry)
  exact d_in hu I hg rx fun s' I' => ⟨.bl _, H, I', rfl, q⟩
theorem op_notInD (hu : X.A.units + 1 < cLine) : OpR X (compareOp .NotIn) (rInD true) := by
  intro pins s σ H x y v u Q I rx ry ⟨a, o, ey, hg, q⟩
  subst ey
  cases (show u = Value.ref a from ry)
  exact d_notIn hu I hg rx fun s' I' => ⟨.bl _, H, I', rfl, q⟩
def oInDG (neg : Bool) (a b : RV) (S : Store) : Option RV := (findD (view S b.1) a.1).map fun o => (.bl (if neg then !o.isSome else o.isSome), .sh)
abbrev oInD := oInDG false
abbrev oNotInD := oInDG true
theorem ok_inDG {neg : Bool} : OkOp2 w (rInD neg) (oInDG neg) := by
  intro g ρ S σ H a b x y q Q rel ha hb e k
  unfold oInDG at e
  obtain ⟨o, ho, rfl⟩ := Option.map_eq_some_iff.mp e
  obtain ⟨t, u, rfl, hg, h1, h2⟩ := find_get (look_view rel hb) ha.read.look ho
  have es : u.isSome = o.isSome := by
    cases o with
    | none => rw [h1 rfl]; rfl
    | some d => obtain ⟨v, rfl, _⟩ := h2 d rfl; rfl
  refine ⟨t, u, rfl, hg, ?_⟩
  rw [es]
  exact k _ _ (.same rel (.bl _))
/-- k in b, b a row or a dict -/
def oInXG (neg : Bool) (a b : RV) (S : Store) : Option RV := (oInG neg a b S).or (oInDG neg a b S)
abbrev oInX := oInXG false
abbrev oNotInX := oInXG true
def rInX (K : PySem.W.Frag) (neg : Bool) : R2 := fun x y H Q => rInA K neg x y H Q ∨ rInD neg x y H Q
theorem op_inX (c : CxR X) (hu : X.A.units + 1 < cLine) : OpR X (compareOp .In) (rInX X.K false) := (op_inA c).or (op_inD hu)
theorem op_notInX (c : CxR X) (hu : X.A.units + 1 < cLine) : OpR X (compareOp .NotIn) (rInX X.K true) := (op_notInA c).or (op_notInD hu)
theorem ok_inXG {neg : Bool} : OkOp2 w (rInX w.K neg) (oInXG neg) := by
  intro g ρ S σ H a b x y q Q rel ha hb e k
  unfold oInXG at e
  cases e1 : oInG neg a b S with
  | some r =>
    rw [e1] at e
    cases e
    exact .inl (ok_inG g ρ S σ H a b x y _ Q rel ha hb e1 k)
  | none =>
    rw [e1, Option.none_or] at e
    exact .inr (ok_inDG g ρ S σ H a b x y q Q rel ha hb e k)
/-- {} whose keys are pairs -/
def sDictT : SE := fun _ S => .ok (.dt [], .own) S
theorem e_dictT {pos : Pos} : PE X (.Dict [] [] pos) (rdE w W sDictT) := PE.imp pe_dnewT fun σ H Q ⟨g, ρ, S, rel, h⟩ p hp => h _ _ (.box rel hp (.dt upd_same .nil))
/-- o[k] = v, o a dict with a name of its own -/
def sPutA (fo fk fv : SE) : SS := fun ρ S => goS (fv ρ S) ρ fun v S1 => goS (fo ρ S1) ρ fun o S2 => goS (fk ρ S2) ρ fun k S3 => match o.1 with
  | .obj n => match S3[n]? with
    | some (.dk kvs) => if leakOk v = true ∧ (dKey k.1).isSome = true ∧ kvs.length < sizeLine then .nx ρ (S3.set n (.dk (setK kvs k.1 v.1))) else .bad
    | some (.dt kvs) => if leakOk v = true ∧ keyP k.1 = true ∧ kvs.length < sizeLine then .nx ρ (S3.set n (.dt (setK kvs k.1 v.1))) else .bad
    | _ => .bad
  | _ => .bad
theorem st_putA {o i value : Expr} {fo fk fv : SE} {pos pos' : Pos} (hu : X.A.units + 1 < cLine) (hs : swapsWith value (some (.Subscript o i pos')) pos.line X.env = pure false) (ho : PE X o (rdE w W fo)) (hi : PE X i (rdE w W fk)) (hv : PE X value (rdE w W fv)) :
    PS X (.Assign [.Subscript o i pos'] value pos) (rdS w W (sPutA fo fk fv)) := by
  refine PS.imp (ps_dput hu ho hi hv hs) fun De σ H ⟨g, ρ, S, rel, h⟩ => ?_
  refine rdE_imp (bindE rel h goodS) fun v H1 ⟨r1, S1, m1, s1, rel1, res1, _, h1⟩ => ?_
  refine rdE_imp (bindE rel1 h1 goodS) fun x H2 ⟨r2, S2, m2, s2, rel2, res2, _, h2⟩ => ?_
  refine rdE_imp (bindE rel2 h2 goodS) fun y H3 ⟨r3, S3, m3, s3, rel3, res3, _, h3⟩ => ?_
  split at h3
  rotate_left
  · exact h3.elim
  rename_i n eo
  have a2 := s3.arg res2.arg
  obtain ⟨d2, fl2⟩ := r2
  cases eo
  obtain ⟨a, rfl, ha⟩ := rel3.named a2
  have am : a ∈ m3 := List.mem_of_getElem? ha
  have poke : ∀ {u o : HO} {d : D}, H3 a = some u → boxO u = true → (∀ Mo : Mono m3 g.Z H3 m3 g.Z (upd H3 a o), BoxW w m3 g.Z (upd H3 a o) d a) → _ := fun {u o d} hd hu' hb => by
    have nf : ∀ u, H3 a = some u → ¬ fixO a u := fun u' e q => by
      rw [hd] at e
      cases e
      rcases q with ⟨_, q⟩ | ⟨_, _, q⟩ | ⟨_, q⟩ | ⟨_, _, q⟩ <;> first | (subst q; cases hu') | (rw [q] at hu'; cases hu') | (unfold ExcO at q; subst q; cases hu')
    have sm : Mono m3 g.Z H3 m3 g.Z (upd H3 a o) := {
      tup := fun b xs h => by
        rw [upd_ne (fun z => by rw [z, hd] at h; cases h; cases hu')]; exact h
      box := fun b u _ h z n => ⟨by have ne : b ≠ a := (fun z => n (z ▸ am)); unfold Rd; rw [upd_ne ne]; exact h, z, n⟩
      exa := fun b u _ h z n => ⟨by have ne : b ≠ a := (fun z => n (z ▸ am)); rw [upd_ne ne]; exact h, z, n⟩
      frl := fun b ob xs h => by
        rw [upd_ne (fun z => by rw [z, hd] at h; cases h; cases hu')]; exact h
      exc := fun b cls dd h => by
        rw [upd_ne (fun z => by subst z; rw [hd] at h; cases h; unfold ExcO at hu'; cases hu')]; exact h
      xd := fun b gs h => by
        rw [upd_ne (fun z => by rw [z, hd] at h; cases h; cases hu')]; exact h
      obj := fun _ _ h => h }
    exact rel3.poke (d := d) (o := o) ha nf (hb sm)
  split at h3
  · rename_i kvs es
    split at h3
    rotate_left
    · exact h3.elim
    rename_i c
    obtain ⟨lk, ks, hz⟩ := c
    obtain ⟨q, hq⟩ := Option.isSome_iff_exists.mp ks
    obtain ⟨a', ha', bx⟩ := rel3.sto.at_ n _ es
    have e : a' = a := by rw [ha] at ha'; exact (Option.some.inj ha').symm
    subst e
    cases bx with
    | dk hd r =>
      have rv := (s3.arg (s2.arg res1.arg)).rep lk
      obtain ⟨s4, rel4⟩ := poke (o := .dK (putK _ q v)) (d := .dk (setK kvs r3.1 r1.1)) hd rfl fun M => .dk upd_same ((r.put hq rv).mono M)
      exact ⟨a', _, rfl, .inl ⟨_, q, hd, key_of res3.arg.read.look hq, by rw [← r.length]; exact hz, rfl⟩, h3 _ _ ⟨_, s4.toS, rel4⟩⟩
  · rename_i kvs es
    split at h3
    rotate_left
    · exact h3.elim
    rename_i c
    obtain ⟨lk, ks, hz⟩ := c
    obtain ⟨q, hq⟩ := keyP_T ks
    obtain ⟨a', ha', bx⟩ := rel3.sto.at_ n _ es
    have e : a' = a := by rw [ha] at ha'; exact (Option.some.inj ha').symm
    subst e
    cases bx with
    | dt hd r =>
      have rv := (s3.arg (s2.arg res1.arg)).rep lk
      obtain ⟨b, rfl, hb⟩ := keyP_of ks hq res3.arg.read.look
      obtain ⟨s4, rel4⟩ := poke (o := .dT (putK _ q v)) (d := .dt (setK kvs r3.1 r1.1)) hd rfl fun M => .dt upd_same ((r.put hq rv).mono M)
      exact ⟨a', _, rfl, .inr ⟨_, q, b, hd, rfl, hb, by rw [← r.length]; exact hz, rfl⟩, h3 _ _ ⟨_, s4.toS, rel4⟩⟩
  · exact h3.elim
end
end DL

set_option maxRecDepth 100000
set_option maxHeartbeats 2000000
/-! The value layer: x += e, of numbers; of a list with a name of its own. -/
namespace DL
open PySem L2
section
variable {X : Cx} {w : Wd} {W : WX}
/-- x += e by an operation on values -/
def sAug (op : RV → RV → Store → Option RV) (i : Nat) (f : SE) : SS := fun ρ S => match ρ[i]? with
  | some (some (d, .sh)) => goS (f ρ S) ρ fun r S1 => goS (opt (op (d, .sh) r S1) S1) ρ fun q S2 => if leakOk q = true then .nx (ρ.set i (some (q.1, .sh))) S2 else .bad
  | _ => .bad
theorem ip_r {op : Operator} {t : TIp} {r : R2} (ho : PIp X op t) (h : ∀ x y H Q, r x y H Q → t x y H Q) : PIp X op r := fun pins s σ H x y v u Q I r1 r2 q => ho pins s σ H x y v u Q I r1 r2 (h _ _ _ _ q)
theorem st_aug {i : Nat} {x : Str} {e : Expr} {f : SE} {op : Operator} {r : R2} {fo : RV → RV → Store → Option RV} {pos pos' : Pos} (ok : OkOp2 w r fo) (hp : PIp X op r) (o : Sto X i x) (he : PE X e (rdE w W f)) : PS X (.AugAssign (.Name x pos') op e pos) (rdS w W (sAug fo i f)) := by
  refine PS.imp (ps_aug o.nd o.at_ o.loc he hp o.hf) fun De σ H ⟨g, ρ, S, rel, h⟩ => ?_
  unfold sAug at h
  split at h
  rotate_left
  · exact h.elim
  rename_i d ed
  obtain ⟨v, hv, held⟩ := rel.loc i d .sh ed
  refine ⟨v, hv, ?_⟩
  refine rdE_imp (bindE rel h goodS) fun y H1 ⟨r1, S1, m1, s1, rel1, res1, _, h1⟩ => ?_
  have a1 : Arg w m1 g.Z H1 (d, .sh) v := s1.arg (Res.arg (g := g) (H := H) (S := S) (r := (d, .sh)) held)
  cases eq : fo (d, .sh) r1 S1 with
  | none => rw [eq] at h1; exact h1.elim
  | some q =>
    rw [eq] at h1
    refine ok (g.at m1) ρ S1 σ H1 _ _ _ _ q _ rel1 a1 res1.arg eq fun z H2 rk => ?_
    obtain ⟨m2, s2, rel2, res2⟩ := rk
    have h2 : PostS w W De (g.at m1) H1 (if leakOk q = true then .nx (ρ.set i (some (q.1, .sh))) S1 else .bad) := h1
    split at h2
    · rename_i c
      exact h2 _ _ ⟨_, s2.toS, rel2.set (res2.arg.rep c)⟩
    · exact h2.elim
/-- numbers -/
def rAugI (g : Int → Int → Int) : R2 := fun x y H Q => ∃ i j, x = .int i ∧ y = .int j ∧ Q (.int (g i j)) H
def oAugI (g : Int → Int → Int) (a b : RV) (_ : Store) : Option RV := match a.1, b.1 with
  | .int i, .int j => some (.int (g i j), .sh)
  | _, _ => none
theorem ok_augI {f : Int → Int → Int} : OkOp2 w (rAugI f) (oAugI f) := by
  intro g ρ S σ H a b x y q Q rel ha hb e k
  unfold oAugI at e
  split at e
  · rename_i i j e1 e2
    cases e
    have l1 := ha.read.look
    have l2 := hb.read.look
    rw [e1] at l1
    rw [e2] at l2
    exact ⟨i, j, l1.int, l2.int, k _ _ (.same rel (.int _))⟩
  · cases e
theorem ip_augAdd : PIp X .Add (rAugI fun i j => i + j) := ip_r ip_add fun _ _ _ _ h => h
theorem ip_augSub : PIp X .Sub (rAugI fun i j => i - j) := ip_r ip_sub fun _ _ _ _ h => h
/-! ### x += [..], x a list with a name of its own -/
theorem inplace_seq {prog : Program} {w : World} {A : Around} {s : Shared} {E : Value → Shared → Prop} {a b f : Value} {T idn : String} {Q : Value → Shared → Prop} (ta : s.TypeIs a T) (tb : s.TypeIs b T)
    (lk : typeLookup (.type T) (dunderI "add") = pure (some f)) (sl : isSeqSlot (some f) = true) (fl : fillsNumberSlot (.type T) "add" = pure false) (sq : seqSlot? (.type T) (dunderI "add") = pure (some (.builtin idn)))
    (go : wpAny (model prog w) A (call (.builtin idn) [a, b]) Q E s) : wpAny (model prog w) A (inplaceOp .Add a b) Q E s := by
  unfold inplaceOp
  refine wpAny_holding ?_
  have nf : fillsInplaceSlot (.type T) "add" (Operator.Add == .Add) = pure false := by
    unfold fillsInplaceSlot
    show (typeLookup (.type T) (dunderI "add") >>= fun fi => pure (fi.isSome && !isSeqSlot fi)) = pure false
    rw [lk]
    show (pure ((some f).isSome && !isSeqSlot (some f)) : Sem Bool) = pure false
    rw [sl]; rfl
  refine wpAny_bind (wpAny_typeOf ta (wpAny_bind (wpAny_of_eq nf ?_)))
  show wpAny _ A (if false = true then _ else _) Q E s
  rw [if_neg Bool.false_ne_true]
  refine wpAny_bind (wpAny_binaryOp1_none (nm := "add") ta tb fl ?_)
  refine wpAny_bind (wpAny_of_eq sq ?_)
  exact wpAny_bind (wpAny_rule go)
theorem seq_list_iadd : seqSlot? (.type "list") (dunderI "add") = pure (some (.builtin "list.__iadd__")) := seqSlot_of PySem.F.slot_list_iadd.lookup (by decide +kernel)
def rExt : TIp := fun x y H Q => ∃ l b xs zs, x = .ref l ∧ y = .ref b ∧ H l = some (.lst xs) ∧ H b = some (.lst zs) ∧ xs.length + zs.length ≤ sizeLine ∧ Q (.ref l) (upd H l (.lst (xs ++ zs)))
theorem ip_ext : PIp X .Add rExt := by
  intro pins s σ H x y v u Q I rx ry h
  obtain ⟨l, b, xs, zs, rfl, rfl, gH, gB, gz, q⟩ := h
  cases rx
  cases ry
  obtain ⟨z, as_, n, r, ol, e⟩ := I.lstM gH
  obtain ⟨zb, bs, nb, rb, ol2, eb⟩ := I.lstM gB
  have sz : as_.toArray.size + bs.toArray.size ≤ sizeLine := by rw [List.size_toArray, List.size_toArray]; omega
  have lg : ¬ (!as_.toArray.isEmpty && Builtin.List.listTooLong (as_.toArray.size + bs.toArray.size)) = true := by
    rw [notLongL sz, Bool.and_false]
    exact Bool.false_ne_true
  refine inplace_seq ⟨_, e, rfl⟩ ⟨_, eb, rfl⟩ PySem.F.slot_list_iadd.lookup (by decide +kernel) noFill_list_add seq_list_iadd ?_
  refine call_meets PySem.F.slot_list_iadd ⟨_, e, rfl⟩ PySem.F.entry_list_iadd (PySem.F.args_list_iadd_2 _ _)
    (AutoSeq1.list___iadd___list_list_0 l as_.toArray n b bs.toArray nb lg (by rw [List.size_toArray]; omega) (by omega)) ⟨e, eb, ?_⟩
  refine ⟨.ref l, _, I.lset (its' := as_ ++ bs) gH e (by simp) (r.append rb) ?_, rfl, q⟩
  rw [List.length_append]
  omega
def sAugL (i : Nat) (f : SE) : SS := fun ρ S => match ρ[i]? with
  | some (some (.obj n, .sh)) => goS (f ρ S) ρ fun r S1 => match r.1, S1[n]? with
    | .lst es, some (.lst ds) => if ds.length + es.length ≤ sizeLine then .nx ρ (S1.set n (.lst (ds ++ es))) else .bad
    | _, _ => .bad
  | _ => .bad
theorem st_augL {i : Nat} {x : Str} {e : Expr} {f : SE} {pos pos' : Pos} (o : Sto X i x) (he : PE X e (rdE w W f)) : PS X (.AugAssign (.Name x pos') .Add e pos) (rdS w W (sAugL i f)) := by
  refine PS.imp (ps_aug o.nd o.at_ o.loc he ip_ext o.hf) fun De σ H ⟨g, ρ, S, rel, h⟩ => ?_
  unfold sAugL at h
  split at h
  rotate_left
  · exact h.elim
  rename_i n ed
  obtain ⟨v, hv, held⟩ := rel.loc i _ .sh ed
  refine ⟨v, hv, ?_⟩
  refine rdE_imp (bindE rel h goodS) fun y H1 ⟨r1, S1, m1, s1, rel1, res1, _, h1⟩ => ?_
  have a1 : Arg w m1 g.Z H1 (.obj n, .sh) v := s1.arg (Res.arg (g := g) (H := H) (S := S) (r := (.obj n, .sh)) held)
  split at h1
  rotate_left
  · exact h1.elim
  rename_i es ds er es2
  split at h1
  rotate_left
  · exact h1.elim
  rename_i c
  obtain ⟨a, vs, rfl, ha, hl, rs⟩ := named_lst rel1 a1 es2
  have lk := res1.arg.read.look
  rw [er] at lk
  obtain ⟨b, us, rfl, hb, rb⟩ := lk.lst
  have ln := rs.length
  have ln2 := rb.length
  obtain ⟨s4, rel4, sm⟩ := rel1.pokeL (us := vs ++ us) ha hl (rs.app rb)
  refine ⟨a, b, vs, us, rfl, rfl, hl, hb, by omega, ?_⟩
  have e4 : ρ.set i (some (.obj n, .sh)) = ρ := by
    refine List.ext_getElem? fun j => ?_
    by_cases hj : i = j
    · subst hj
      rw [List.getElem?_set_self (List.getElem?_eq_some_iff.mp ed).1, ed]
    · rw [List.getElem?_set_ne hj]
  refine h1 _ _ ⟨_, s4.toS, ?_⟩
  rw [← e4]
  exact rel4.set (.obj ha)
end
end DL

set_option maxRecDepth 100000
set_option maxHeartbeats 2000000
/-! sorted(list of (int, text)), of any length. -/
namespace SrtO
open PySem PyProof.Rows Srt
/-- a pair of a number and a text -/
def IsPrS (h : Heap) (v : Value) (x : Int) (y : PySem.Str) : Prop := ∃ a o t u n, v = .ref a ∧ h.get? a = some o ∧ o.cls = .type "tuple" ∧ o.data = .seq #[.int x t, .str y u] n
theorem IsPrS.keeps {h h' : Heap} {v : Value} {x : Int} {y : PySem.Str} (p : IsPrS h v x y) (k : ∀ b o, h.get? b = some o → o.cls = .type "tuple" → h'.get? b = some o) : IsPrS h' v x y := by
  obtain ⟨a, o, t, u, n, e, fo, fc, fd⟩ := p
  exact ⟨a, o, t, u, n, e, k _ _ fo fc, fc, fd⟩
def lexS (p q : Int × PySem.Str) : Bool := if p.1 = q.1 then decide (p.2.cps.toList < q.2.cps.toList) else decide (p.1 < q.1)
theorem lexS_iff {p q : Int × PySem.Str} : lexS p q = true ↔ p.1 < q.1 ∨ (p.1 = q.1 ∧ p.2.cps.toList < q.2.cps.toList) := by
  unfold lexS
  by_cases e : p.1 = q.1
  · rw [if_pos e, decide_eq_true_eq]
    exact ⟨fun h => .inr ⟨e, h⟩, fun h => h.elim (fun z => absurd e (by omega)) fun z => z.2⟩
  · rw [if_neg e, decide_eq_true_eq]
    exact ⟨fun h => .inl h, fun h => h.elim id fun z => absurd z.1 e⟩
theorem lexS_no {p q : Int × PySem.Str} : lexS p q = false ↔ q.1 < p.1 ∨ (p.1 = q.1 ∧ q.2.cps.toList ≤ p.2.cps.toList) := by
  have := lexS_iff (p := p) (q := q)
  constructor
  · intro h
    rw [h] at this
    have n : ¬ (p.1 < q.1 ∨ (p.1 = q.1 ∧ p.2.cps.toList < q.2.cps.toList)) := fun z => Bool.false_ne_true (this.mpr z)
    by_cases e : p.1 = q.1
    · exact .inr ⟨e, List.not_lt.mp fun z => n (.inr ⟨e, z⟩)⟩
    · refine .inl ?_
      have : ¬ p.1 < q.1 := fun z => n (.inl z)
      omega
  · intro h
    cases e : lexS p q with
    | false => rfl
    | true =>
      rcases this.mp e with z | ⟨z1, z2⟩
      · rcases h with h | ⟨h, _⟩ <;> omega
      · rcases h with h | ⟨_, h⟩
        · omega
        · exact absurd z2 (List.not_lt.mpr h)
theorem swo_lexS {α : Type} (k : α → Int × PySem.Str) : Swo fun v u => lexS (k v) (k u) := by
  refine ⟨fun x y h => ?_, fun x y z g1 g2 => ?_⟩
  · have a := lexS_iff.mp h
    refine lexS_no.mpr ?_
    rcases a with a | ⟨a, b⟩
    · exact .inl a
    · exact .inr ⟨a.symm, List.le_of_lt b⟩
  · have a := lexS_no.mp g1
    have b := lexS_no.mp g2
    refine lexS_no.mpr ?_
    rcases a with a | ⟨a, a'⟩
    · rcases b with b | ⟨b, b'⟩ <;> exact .inl (by omega)
    · rcases b with b | ⟨b, b'⟩
      · exact .inl (by omega)
      · exact .inr ⟨by omega, List.le_trans a' b'⟩
section
variable {prog : Program} {w : World} {A : Around} {E : Value → Shared → Prop} {s : Shared}
theorem prS_cmp {vs : List Value} {k : Value → Int × PySem.Str} (pp : ∀ v ∈ vs, IsPrS s.heap v (k v).1 (k v).2) : Cmp prog w A s (tuples' true) (fun p => p.1 ∈ vs) (lt2 fun v u => lexS (k v) (k u)) := by
  intro p q im im'
  have g1 := pp _ im
  have g2 := pp _ im'
  show wpAny (model prog w) A (keyLt' (tuples' true) p.1 q.1) (fun r s' => s' = s ∧ r = lexS (k p.1) (k q.1)) (fun _ _ => False) s
  unfold lexS
  generalize (k p.1).1 = x at g1 ⊢
  generalize (k p.1).2 = y at g1 ⊢
  generalize (k q.1).1 = x' at g2 ⊢
  generalize (k q.1).2 = y' at g2 ⊢
  obtain ⟨a, o, t, u, n, e, fo, fc, fd⟩ := g1
  obtain ⟨a', o', t', u', n', e', fo', fc', fd'⟩ := g2
  rw [e, e']
  refine PySem.W.kat_lt fo fd fo' fd' ?_
  show PySem.W.KatLex prog w A true (decide (2 < 2)) _ [(.int x t, .int x' t'), (.str y u, .str y' u')] 0 s
  refine PySem.W.kat_cons (SeqAt.EqAt.int_int x t x' t' prog w _ _ ?_)
  refine PySem.W.kat_go (fun q1 => ?_) (fun q1 => ?_)
  · have qx : x = x' := by simpa using q1
    refine PySem.W.kat_yes (PySem.W.kat_cons (SeqAt.EqAt.str_str y u y' u' prog w _ _ ?_))
    refine PySem.W.kat_go (fun q2 => ?_) (fun q2 => ?_)
    · have qy : y = y' := by simpa using q2
      have q3 : (if x = x' then decide (y.cps.toList < y'.cps.toList) else decide (x < x')) = false := by
        rw [if_pos qx, qy]
        exact decide_eq_false (List.lt_irrefl _)
      exact PySem.W.kat_yes (PySem.W.kat_nil ⟨rfl, q3.symm⟩)
    · have q3 : (if x = x' then decide (y.cps.toList < y'.cps.toList) else decide (x < x')) = decide (y.cps.toList < y'.cps.toList) := if_pos qx
      refine PySem.W.kat_no (PySem.W.kat_one _ _ (PyProof.Rows.lt_str ?_))
      exact (show s = s ∧ decide (y.cps.toList < y'.cps.toList) = (if x = x' then decide (y.cps.toList < y'.cps.toList) else decide (x < x')) from ⟨rfl, q3.symm⟩)
  · have qx : ¬ x = x' := by simpa using q1
    have q3 : (if x = x' then decide (y.cps.toList < y'.cps.toList) else decide (x < x')) = decide (x < x') := if_neg qx
    exact PySem.W.kat_no (oneLt_int ⟨rfl, q3.symm⟩)
theorem firstsS {h : Heap} : ∀ {vs : List Value}, (∀ v ∈ vs, ∃ x y, IsPrS h v x y) → ∃ rs : List Value, PySem.W.KatTups h vs rs ∧ rs.length = vs.length ∧ ∀ f ∈ rs, ∃ x t, f = Value.int x t
  | [], _ => ⟨[], PySem.W.KatTups.nil, rfl, fun _ im => by simp at im⟩
  | v :: vs, pp => by
    obtain ⟨rs, g1, g2, g3⟩ := firstsS (vs := vs) fun v' im => pp v' (List.mem_cons_of_mem _ im)
    obtain ⟨x, y, a, o, t, u, n, e, fo, fc, fd⟩ := pp v (List.mem_cons_self ..)
    subst e
    refine ⟨.int x t :: rs, PySem.W.KatTups.cons fo fc fd rfl g1, by rw [List.length_cons, List.length_cons, g2], fun f im => ?_⟩
    rcases List.mem_cons.mp im with rfl | im
    · exact ⟨x, t, rfl⟩
    · exact g3 f im
theorem prS_sortable {a : Addr} {vs : List Value} {k : Value → Int × PySem.Str} (h0 : 0 < vs.length) (pp : ∀ v ∈ vs, IsPrS s.heap v (k v).1 (k v).2) (ha : ∀ o, s.heap.get? a = some o → o.cls ≠ .type "tuple") : SortableO prog w A s a vs fun v u => lexS (k v) (k u) := by
  intro h' keep
  have pp' : ∀ v ∈ vs, IsPrS h' v (k v).1 (k v).2 := fun v im => (pp v im).keeps fun b o e c => keep b o (fun z => by subst z; exact ha o e c) e
  obtain ⟨rs, g1, g2, g3⟩ := firstsS fun v im => ⟨_, _, pp' v im⟩
  refine ⟨tuples' true, fun Q E hq => ?_, prS_cmp pp'⟩
  refine PySem.W.kat_kind (T := .type "int") g1 (by omega) (fun f im => ?_) (by rfl) ?_
  · obtain ⟨x, t, rfl⟩ := g3 f im
    exact PySem.W.Looks.now
  · have e : (Value.type "int" != Value.type "tuple") = true := by first | decide +kernel | rfl | decide
    rw [e]
    exact hq
theorem sorted_prS {l : Addr} {vs : List Value} {k : Value → Int × PySem.Str} {Q : Value → Shared → Prop} (ol : s.heap.IsList l vs.toArray) (oz : vs.length ≤ sizeLine) (pp : ∀ v ∈ vs, IsPrS s.heap v (k v).1 (k v).2)
    (h : ∀ (h' : Heap) (d : Addr) (out : List Value), Srtd (fun v u => lexS (k v) (k u)) out → Stb (fun v u => lexS (k v) (k u)) out vs → (∀ b o, s.heap.get? b = some o → h'.get? b = some o) → s.heap.objs.size ≤ d → (∃ n, h'.get? d = some (seqObj "list" out.toArray n)) → Q (.ref d) { s with heap := h' }) :
    wpAny (model prog w) A (call (.builtin "sorted") [.ref l]) Q E s := by
  refine sorted_ord (swo_lexS k) ol oz (fun g2 h₁ a ha kq => ?_) fun out os ob => ?_
  · refine prS_sortable (s := { s with heap := h₁ }) (by omega) (fun v im => (pp v im).keeps fun b o e _ => (kq b o e).2) fun o e => ?_
    have e' : some o = some (seqObj "list" vs.toArray 0) := e.symm.trans ha
    cases e'
    intro c
    exact absurd (Value.type.inj c) (by decide)
  · exact h _ _ out os ob (fun b o e => sortedAll_old e) (Nat.le_succ _) (sortedAll_at s.heap vs out.toArray)
end
end SrtO
namespace L2
open PySem PySem.Spec PyProof.Rows
abbrev ltS (k : V → Int × Str) (x y : V) : Bool := SrtO.lexS (k x) (k y)
/-- sorted(xs), xs a list of pairs of a number and a text -/
def rSortS (K : PySem.W.Frag) : List V → Hp → VK → Prop := fun vs H Q => ∃ (a : Addr) (xs : List V) (k : V → Int × Str), vs = [V.ref a] ∧ SqL K H a xs ∧ (∀ x ∈ xs, ∃ t, x = V.ref t ∧ H t = some (.tup [.int (k x).1, .str (k x).2])) ∧
  ∀ ys p, SrtO.Srtd (ltS k) ys → SrtO.Stb (ltS k) ys xs → H p = none → Q (.ref p) (upd H p (.lst ys))
section
variable {X : Cx}
theorem cr_sortS : CallR X (.builtin "sorted") (rSortS X.K) := by
  intro pins s σ H vs us Q I r h
  obtain ⟨a, xs, k, rfl, hs, px, q⟩ := h
  obtain ⟨its, rw_, ol, oz⟩ := I.list hs
  obtain ⟨u, rfl, ru_⟩ := vals1 r
  obtain rfl : u = Value.ref a := ru_
  obtain ⟨q1, q2⟩ := refs_back rw_ fun x m => by
    obtain ⟨t, e, _⟩ := px x m
    exact ⟨t, e⟩
  refine SrtO.sorted_prS (k := fun u => k (backV u)) ol.isList (by rw [← rw_.length]; exact oz) (fun v iv => ?_) fun h' d out g1 g2 kq fd fn_ => ?_
  · obtain ⟨t, rfl⟩ := q2 v iv
    have hm : V.ref t ∈ xs := by rw [q1]; exact List.mem_map.mpr ⟨_, iv, rfl⟩
    obtain ⟨t', e, it⟩ := px _ hm
    cases e
    obtain ⟨_, jts, rr, o, fo, fc, n, fd⟩ := I.hok _ _ it
    obtain ⟨v1, v2, rfl, r1, r3⟩ := vals2 rr
    obtain ⟨k1, rfl⟩ := r1
    obtain ⟨k2, rfl⟩ := r3
    exact ⟨t, o, k1, k2, n, rfl, fo, fc, fd⟩
  · have g3 : ∀ u ∈ out, ∃ a, u = Value.ref a := fun u hu => q2 u (g2.perm.mem_iff.mp hu)
    obtain ⟨n, fn_⟩ := fn_
    have ob : SrtO.Stb (ltS k) (out.map backV) xs := by
      rw [q1]
      exact SrtO.Stb.map (SrtO.swo_lexS k) backV g2
    refine ⟨.ref d, upd H d (.lst (out.map backV)), I.laid (t' := s.toks) kq fd ⟨?_, out, n, vals_back g3, fn_⟩, rfl, q _ d (SrtO.srtd_map g1) ob (I.hok.fresh fd)⟩
    rw [ob.len]
    exact oz
end
end L2

set_option maxRecDepth 100000
set_option maxHeartbeats 2000000
/-! sorted(d), d a dict whose keys are pairs of a number and a text. -/
namespace SrtO
open PySem PyProof.Rows Srt
section
variable {prog : Program} {w : World} {A : Around} {E : Value → Shared → Prop} {s : Shared}
/-- sorted(x), x walked item by item, the items in a strict weak order -/
theorem sorted_src {T : String} {r dd : Addr} {n : Nat} {P : Nat → Value → Prop} {OK : Heap → Prop} {ltv : Value → Value → Bool} {Q : Value → Shared → Prop} (src : PySem.W.KdlSrc prog w T r dd n P OK) (free : A.handled = none) (now : OK s.heap) (few : n ≤ sizeLine) (O : Swo ltv)
    (cmp : ∀ vs : List Value, vs.length = n → (∀ (j : Nat) (v : Value), vs[j]? = some v → P j v) → 2 ≤ vs.length → ∀ (g : Heap) (tk : Nat) (a : Addr), g.get? a = some (seqObj "list" vs.toArray 0) → (∀ b o, s.heap.get? b = some o → b ≠ a ∧ g.get? b = some o) →
      SortableO prog w A.in1.in1 { s with heap := g, toks := tk } a vs ltv)
    (fin : ∀ (vs out : List Value) (g : Heap) (tk : Nat) (d : Addr), vs.length = n → (∀ (j : Nat) (v : Value), vs[j]? = some v → P j v) → Srtd ltv out → Stb ltv out vs → (∀ b o, s.heap.get? b = some o → g.get? b = some o) → s.heap.get? d = none →
      (∃ c, g.get? d = some (seqObj "list" out.toArray c)) → Q (.ref d) { s with heap := g, toks := tk }) :
    wpAny (model prog w) A (call (.builtin "sorted") [.ref r]) Q E s := by
  refine Calls.call_function_entry kind_sorted plain_sorted entry_sorted (args_sorted1 _) (wpAny_bind (m := checkCount "sorted" 1 1 _) (wpAny_pure ?_))
  refine wpAny_bind (PySem.W.kdu_collect (A := A.in1) src free now few fun g tk acc old itm => wpAny_bind (wpAny_newList ?_ ?_))
  rotate_left
  · rw [Array.length_toList, itm.1]; exact few
  have len : acc.toList.length = n := (Array.length_toList ..).trans itm.1
  have each : ∀ (j : Nat) (v : Value), acc.toList[j]? = some v → P j v := fun j v e => itm.2 j v (by rw [← Array.getElem?_toList]; exact e)
  obtain ⟨G, eG⟩ : ∃ G, G = g.push (seqObj "list" acc.toList.toArray 0) := ⟨_, rfl⟩
  have at_ : G.get? g.objs.size = some (seqObj "list" acc.toList.toArray 0) := by rw [eG]; exact Heap.get?_push_size _ rfl
  have kept : ∀ b o, s.heap.get? b = some o → b ≠ g.objs.size ∧ G.get? b = some o := fun b o e => by
    have e' := old b o e
    rw [eG]
    exact ⟨Nat.ne_of_lt (Heap.lt_size e'), Heap.get?_push_of_some _ e'⟩
  show wpAny _ _ _ _ _ { s with heap := g.push (seqObj "list" acc.toList.toArray 0), toks := tk }
  rw [← eG]
  refine wpAny_bind (wpAny_holding (wpAny_call_entry slot_list_sort ⟨_, at_, rfl⟩ entry_list_sort (list_sort_ord (s := { s with heap := G, toks := tk }) O at_ (by rw [len]; exact few) (fun two => cmp _ len each two G tk _ at_ kept) fun out os ob => ⟨_, rfl, ?_⟩) (args_list_sort _)))
  refine wpAny_pure ⟨_, rfl, fin acc.toList out _ tk _ len each os ob (fun b o e => ?_) ?_ (sortedHeap_at at_)⟩
  · obtain ⟨ne, e'⟩ := kept b o e
    rw [sortedHeap_old ne (Heap.lt_size e')]
    exact e'
  · cases e : s.heap.get? g.objs.size with
    | none => rfl
    | some o => exact absurd rfl (kept _ _ e).1
end
end SrtO
namespace L2
open PySem PySem.Spec PyProof.Rows
/-- the key of a pair of a number and a text, off its object -/
def keyAt (H : Hp) (x : V) : Int × Str := match x with
  | .ref t => (match H t with
    | some (.tup [.int i, .str y]) => (i, y)
    | _ => (0, ⟨#[]⟩))
  | _ => (0, ⟨#[]⟩)
/-- a key that is a pair of a number and a text -/
def prKey (q : List Key) : Bool := match q with
  | [.inl _, .inr _] => true
  | _ => false
theorem keyAt_of {H : Hp} {t : Addr} {q : List Key} (e : H t = some (.tup (q.map kV))) (p : prKey q = true) : H t = some (.tup [.int (keyAt H (.ref t)).1, .str (keyAt H (.ref t)).2]) := by
  match q, p with
  | [.inl i, .inr y], _ =>
    have e' : H t = some (.tup [.int i, .str y]) := e
    unfold keyAt
    simp only [e']
/-- what is tracked stands in the heap -/
theorem objOk_some {P : Program} {w : World} {H : Hp} {h : Heap} {a : Addr} {o : HO} (x : ObjOk P w H h a o) : ∃ u, h.get? a = some u := by
  cases o with
  | lst xs => exact let ⟨_, _, _, _, e⟩ := x; ⟨_, e⟩
  | tup xs => exact let ⟨_, _, _, _, e, _⟩ := x; ⟨_, e⟩
  | dK kvs => exact let ⟨_, _, _, _, _, _, _, e, _⟩ := x; ⟨_, e⟩
  | dT kvs => exact let ⟨_, _, _, _, _, _, _, e, _⟩ := x; ⟨_, e⟩
  | set S n => exact let ⟨_, _, _, _, e, _⟩ := x; ⟨_, e⟩
  | ins C dx fs => exact let ⟨_, _, _, e, _⟩ := x; ⟨_, e⟩
  | own y => exact x.imp fun _ e => e
  | xd fs => exact let ⟨_, ⟨_, _, _, e, _⟩, _⟩ := x; ⟨_, e⟩
  | rng lo hi => exact let ⟨_, _, _, e⟩ := x; ⟨_, e⟩
  | frz ob u => exact ⟨_, x.1⟩
  | tbl ps => exact ⟨_, show h.get? a = some _ from x⟩
  | met f y => exact ⟨_, show h.get? a = some _ from x⟩
  | ext φ => exact x.2.1
/-- sorted(d) -/
def rSortD : List V → Hp → VK → Prop := fun vs H Q => ∃ (d : Addr) (kvs : List (List Key × V)), vs = [V.ref d] ∧ Rd H d (.dT kvs) ∧ (∀ p ∈ kvs, prKey p.1 = true) ∧
  ∀ (ys : List V) (p : Addr) (bs : List Addr), IsKeys H kvs bs → ys.Perm (bs.map V.ref) → SrtO.Srtd (ltS (keyAt H)) ys → H p = none → Q (.ref p) (upd H p (.lst ys))
theorem isKeys_mem {H : Hp} : ∀ {kvs : List (List Key × V)} {bs : List Addr}, IsKeys H kvs bs → ∀ b ∈ bs, ∃ p ∈ kvs, H b = some (.tup (p.1.map kV))
  | _, _, .nil, b, hb => absurd hb (by simp)
  | _, _, .cons (a := p) h t, b, hb => by
    rcases List.mem_cons.mp hb with rfl | hb
    · exact ⟨p, List.mem_cons_self, h⟩
    · obtain ⟨q, hq, e⟩ := isKeys_mem t b hb
      exact ⟨q, List.mem_cons_of_mem _ hq, e⟩
section
variable {X : Cx}
theorem cr_sortD (hc : X.calm = true) : CallR X (.builtin "sorted") rSortD := by
  intro pins s σ H vs us Q I r h
  obtain ⟨d, kvs, rfl, hd, pk, fin⟩ := h
  obtain ⟨u, rfl, ru⟩ := r.one
  cases ru
  obtain ⟨few, lo, ks, pr, o, es, ep, at_, ex, dat, ent, nn⟩ := (show ObjOk X.prog X.w H s.heap d (.dT kvs) from hd.ok I.hok)
  have l1 : es.size = ks.length := size_of_entries ent
  have l2 : kvs.length = ks.length := Paired.length pr
  have keys := isKeys_of pr
  have kmem : ∀ x ∈ ks, ∃ q : List Key, H x.2.1 = some (.tup (q.map kV)) ∧ prKey q = true := fun x hx => by
    obtain ⟨p, hp, e⟩ := isKeys_mem keys x.2.1 (List.mem_map.mpr ⟨x, hx, rfl⟩)
    exact ⟨p.1, e, pk p hp⟩
  -- what is walked: the keys' objects
  have walked : ∀ vs : List Value, vs.length = es.size → (∀ (j : Nat) (v : Value), vs[j]? = some v → ∃ en : DictEntry, es[j]? = some en ∧ v = en.key) → vs = ks.map fun x => Value.ref x.2.1 := fun vs hl hv => by
    refine List.ext_getElem (by rw [List.length_map, hl, l1]) fun j g1 g2 => ?_
    obtain ⟨en, e1, e2⟩ := hv j _ (List.getElem?_eq_getElem g1)
    rw [entry_at ent j] at e1
    obtain ⟨x, hx, rfl⟩ := Option.map_eq_some_iff.mp e1
    rw [e2, List.getElem_map]
    have : ks[j]? = some x := hx
    rw [List.length_map] at g2
    rw [List.getElem?_eq_getElem g2] at this
    rw [Option.some.inj this]
    rfl
  have prs : ∀ v ∈ ks.map (fun x => Value.ref x.2.1), SrtO.IsPrS s.heap v (keyAt H (backV v)).1 (keyAt H (backV v)).2 := fun v hv => by
    obtain ⟨x, hx, rfl⟩ := List.mem_map.mp hv
    obtain ⟨q, e, pq⟩ := kmem x hx
    have e' := keyAt_of e pq
    obtain ⟨_, jts, rr, fo, go, gc, c, gd⟩ := I.hok _ _ e'
    obtain ⟨v1, v2, rfl, r1, r2⟩ := vals2 rr
    obtain ⟨k1, rfl⟩ := r1
    obtain ⟨k2, rfl⟩ := r2
    exact ⟨x.2.1, fo, k1, k2, c, rfl, go, gc, gd⟩
  refine SrtO.sorted_src (ltv := fun v u => SrtO.lexS (keyAt H (backV v)) (keyAt H (backV u))) (kdl_raw lo ex dat) (I.ok.hd hc) at_ (by omega) (SrtO.swo_lexS _) (fun vs len each two g tk a ga old => ?_) fun vs out g tk p len each os ob old fresh ⟨c, gp⟩ => ?_
  · rw [walked vs len each] at ga ⊢
    refine SrtO.prS_sortable (by rw [walked vs len each] at two; omega) (fun v hv => (prs v hv).keeps fun b o e _ => (old b o e).2) fun o' e => ?_
    rw [ga] at e
    cases e
    exact fun z => absurd (Value.type.inj z) (by decide)
  · have ew := walked vs len each
    have refs : ∀ u ∈ out, ∃ a, u = Value.ref a := fun u hu => by
      have := ob.perm.mem_iff.mp hu
      rw [ew] at this
      obtain ⟨x, _, rfl⟩ := List.mem_map.mp this
      exact ⟨_, rfl⟩
    have pm : (out.map backV).Perm ((ks.map fun x => x.2.1).map V.ref) := by
      have := ob.perm.map backV
      rw [ew, List.map_map] at this
      rw [List.map_map]
      exact this
    have hn : H p = none := by
      cases e : H p with
      | none => rfl
      | some q => 
        obtain ⟨ob', e'⟩ := objOk_some (I.hok _ _ e)
        rw [fresh] at e'
        cases e'
    refine ⟨.ref p, upd H p (.lst (out.map backV)), I.laidN (t' := tk) old fresh hn ⟨?_, out, c, vals_back refs, gp⟩, rfl, fin _ p _ keys pm (SrtO.srtd_map os) hn⟩
    have := pm.length_eq
    rw [List.length_map, List.length_map] at this
    rw [List.length_map] at this ⊢
    omega
end
end L2

set_option maxRecDepth 100000
set_option maxHeartbeats 2000000
/-! The value layer: sorted of numbers, of pairs of a number and a text, of a dict by such pairs. -/
namespace DL
open PySem L2
section
variable {X : Cx} {w : Wd} {W : WX} {m : List Addr} {Z : Addr → Prop} {H : Hp}
def sortI (ns : List Int) : List Int := ns.mergeSort fun a b => decide (a ≤ b)
theorem sortI_sorted (ns : List Int) : (sortI ns).Pairwise (· ≤ ·) := by
  have := List.pairwise_mergeSort (le := fun a b : Int => decide (a ≤ b)) (fun a b c h1 h2 => by simp at h1 h2 ⊢; omega) (fun a b => by simp; omega) ns
  exact this.imp fun h => by simpa using h
theorem sortI_perm (ns : List Int) : (sortI ns).Perm ns := List.mergeSort_perm _ _
theorem sortI_of {a b : List Int} (p : a.Perm b) (s : a.Pairwise (· ≤ ·)) : a = sortI b :=
  List.Perm.eq_of_pairwise (fun x y _ _ h1 h2 => Int.le_antisymm h1 h2) s (sortI_sorted b) (p.trans (sortI_perm b).symm)
theorem reps_ints' : ∀ ns : List Int, Reps w m Z H (ns.map D.int) (ns.map V.int)
  | [] => .nil
  | n :: r => .cons (.int n) (reps_ints' r)
def oSortI (a : RV) (S : Store) : Option RV := (intsOf a S).map fun ns => (.lst ((sortI ns).map D.int), .own)
theorem ok_sortI (hK : X.K = w.K) : OkOp1 w (fun x H Q => rSortedI X.K [x] H Q) oSortI := by
  intro g ρ S σ H a x q Q rel ha e k
  unfold oSortI at e
  obtain ⟨ns, hn, rfl⟩ := Option.map_eq_some_iff.mp e
  obtain ⟨p, rfl, hs⟩ := Look.intsD rel ha hn
  refine ⟨p, ns, rfl, hK ▸ hs, fun ns' l pm so hl => ?_⟩
  have es := sortI_of pm so
  rw [es]
  exact k _ _ (.lst rel (reps_ints' _) hl)
/-! pairs -/
def isPr : D → Bool
  | .tup [.int _, .str _] => true
  | _ => false
def keyD : D → Int × Str
  | .tup [.int i, .str x] => (i, s2 x)
  | _ => (0, ⟨#[]⟩)
def leD (a b : D) : Bool := !SrtO.lexS (keyD b) (keyD a)
def sortP (ds : List D) : List D := ds.mergeSort leD
theorem leD_trans (a b c : D) (h1 : leD a b = true) (h2 : leD b c = true) : leD a c = true := by
  unfold leD at *
  rw [Bool.not_eq_true'] at *
  exact (SrtO.swo_lexS keyD).tr a b c h1 h2
theorem leD_total (a b : D) : (leD a b || leD b a) = true := by
  unfold leD
  cases h : SrtO.lexS (keyD b) (keyD a) with
  | false => rfl
  | true =>
    have := (SrtO.swo_lexS keyD).asym b a h
    simp only [this]; rfl
theorem str_ext {x y : Str} (h : x.cps.toList = y.cps.toList) : x = y := by
  cases x; cases y
  simp only at h
  rw [Array.toList_inj.mp h]
theorem leD_anti {a b : D} (ha : isPr a = true) (hb : isPr b = true) (h1 : leD a b = true) (h2 : leD b a = true) : a = b := by
  unfold leD at h1 h2
  rw [Bool.not_eq_true'] at h1 h2
  match a, b, ha, hb with
  | .tup [.int i, .str x], .tup [.int j, .str y], _, _ =>
    have g1 := SrtO.lexS_no.mp h1
    have g2 := SrtO.lexS_no.mp h2
    simp only [keyD] at g1 g2
    rcases g1 with g1 | ⟨e1, l1⟩
    · rcases g2 with g2 | ⟨e2, _⟩ <;> omega
    · rcases g2 with g2 | ⟨_, l2⟩
      · omega
      · have := s2_inj (str_ext (List.le_antisymm l1 l2))
        rw [e1, this]
theorem sortP_sorted (ds : List D) : (sortP ds).Pairwise fun a b => leD a b = true := List.pairwise_mergeSort leD_trans leD_total ds
theorem sortP_perm (ds : List D) : (sortP ds).Perm ds := List.mergeSort_perm _ _
theorem sortP_of {a b : List D} (ok : ∀ d ∈ b, isPr d = true) (p : a.Perm b) (s : a.Pairwise fun x y => leD x y = true) : a = sortP b :=
  List.Perm.eq_of_pairwise (fun x y hx hy h1 h2 => leD_anti (ok x (p.mem_iff.mp hx)) (ok y ((sortP_perm b).mem_iff.mp hy)) h1 h2) s (sortP_sorted b) (p.trans (sortP_perm b).symm)
/-- values set in another order -/
theorem Reps.perm {xs ys : List V} (p : ys.Perm xs) : ∀ {ds : List D}, Reps w m Z H ds xs → ∃ es, es.Perm ds ∧ Reps w m Z H es ys := by
  induction p with
  | nil => exact fun r => ⟨_, .refl _, r⟩
  | cons x _ ih =>
    intro ds r
    cases r with
    | cons h t =>
      obtain ⟨es, pm, r'⟩ := ih t
      exact ⟨_ :: es, pm.cons _, .cons h r'⟩
  | swap x y l =>
    intro ds r
    cases r with
    | cons h t =>
      cases t with
      | cons h' t' => exact ⟨_, .swap _ _ _, .cons h' (.cons h t')⟩
  | trans _ _ ih1 ih2 =>
    intro ds r
    obtain ⟨es, p1, r1⟩ := ih2 r
    obtain ⟨fs, p2, r2⟩ := ih1 r1
    exact ⟨fs, p2.trans p1, r2⟩
theorem rep_pr {d : D} {v : V} (h : isPr d = true) (r : Rep w m Z H d v) : (∃ t, v = .ref t ∧ H t = some (.tup [.int (keyAt H v).1, .str (keyAt H v).2])) ∧ keyAt H v = keyD d := by
  match d, h with
  | .tup [.int i, .str x], _ =>
    obtain ⟨b, rfl, hb⟩ := keyP_of (k := .tup [.int i, .str x]) (q := [.inl i, .inr (s2 x)]) (by rfl) rfl (.inl r)
    have hb' : H b = some (.tup [.int i, .str (s2 x)]) := hb
    have e : keyAt H (.ref b) = (i, s2 x) := by unfold keyAt; simp only [hb']
    refine ⟨⟨b, rfl, ?_⟩, e⟩
    rw [e]; exact hb'
theorem srtd_le : ∀ {ds : List D} {vs : List V}, (∀ d ∈ ds, isPr d = true) → Reps w m Z H ds vs → SrtO.Srtd (ltS (keyAt H)) vs → ds.Pairwise fun x y => leD x y = true
  | [], _, _, _, _ => .nil
  | d :: ds, _, ok, .cons (v := v) (vs := vs) h t, s => by
    obtain ⟨s1, s2'⟩ := List.pairwise_cons.mp s
    refine List.pairwise_cons.mpr ⟨fun e he => ?_, srtd_le (fun x hx => ok x (List.mem_cons_of_mem _ hx)) t s2'⟩
    obtain ⟨j, hj⟩ := List.mem_iff_getElem?.mp he
    obtain ⟨u, hu, ru⟩ := t.get hj
    have := s1 u (List.mem_of_getElem? hu)
    unfold leD
    rw [← (rep_pr (ok d List.mem_cons_self) h).2, ← (rep_pr (ok e (List.mem_cons_of_mem _ he)) ru).2]
    simp only [Bool.not_eq_true']
    exact this
theorem Reps.getV : ∀ {ds : List D} {vs : List V}, Reps w m Z H ds vs → ∀ {j : Nat} {v : V}, vs[j]? = some v → ∃ d, ds[j]? = some d ∧ Rep w m Z H d v
  | _, _, .nil, j, v, h => by simp at h
  | _, _, .cons (d := d) h t, 0, v, e => by
    simp at e
    subst e
    exact ⟨d, rfl, h⟩
  | _, _, .cons h t, j + 1, v, e => by
    simp at e
    obtain ⟨d, hd, r⟩ := t.getV e
    exact ⟨d, by simpa using hd, r⟩
theorem sorted_reps {ds : List D} {xs ys : List V} (ok : ∀ d ∈ ds, isPr d = true) (r : Reps w m Z H ds xs) (p : ys.Perm xs) (s : SrtO.Srtd (ltS (keyAt H)) ys) : Reps w m Z H (sortP ds) ys := by
  obtain ⟨es, pm, r'⟩ := r.perm p
  have ok' : ∀ d ∈ es, isPr d = true := fun d hd => ok d (pm.mem_iff.mp hd)
  rw [← sortP_of ok pm (srtd_le ok' r' s)]
  exact r'
def oSortS (a : RV) (S : Store) : Option RV := match view S a.1 with
  | .lst ds => if ds.all isPr = true then some (.lst (sortP ds), .own) else none
  | _ => none
theorem ok_sortS (hK : X.K = w.K) : OkOp1 w (fun x H Q => rSortS X.K [x] H Q) oSortS := by
  intro g ρ S σ H a x q Q rel ha e k
  have l := look_view rel ha
  unfold oSortS at e
  split at e
  · rename_i ds hd
    split at e
    · rename_i c
      cases e
      rw [hd] at l
      obtain ⟨p, vs, rfl, hs, r⟩ := l.lists (.inl rfl)
      have ok : ∀ d ∈ ds, isPr d = true := List.all_eq_true.mp c
      refine ⟨p, vs, keyAt H, rfl, hK ▸ hs, fun v hv => ?_, fun ys t so st ht => ?_⟩
      · obtain ⟨j, hj⟩ := List.mem_iff_getElem?.mp hv
        obtain ⟨d, hd', rd⟩ := r.getV hj
        exact (rep_pr (ok d (List.mem_of_getElem? hd')) rd).1
      · exact k _ _ (.lst rel (sorted_reps ok r st.perm so) ht)
    · cases e
  · cases e
theorem keys_reps : ∀ {ds : List D} {q : List Key}, dKeys ds = some q → Reps w m Z H ds (q.map kV)
  | [], _, h => by cases h; exact .nil
  | d :: ds, _, h => by
    obtain ⟨k, ks, e1, e2, rfl⟩ := dKeys_cons h
    refine .cons ?_ (keys_reps e2)
    cases d with
    | int i => cases e1; exact .int i
    | str x => cases e1; exact .str x
    | _ => cases e1
theorem keysT_reps : ∀ {kvs : List (D × D)} {ks : List (List Key × V)} {bs : List Addr}, RepT w m Z H kvs ks → IsKeys H ks bs → Reps w m Z H (kvs.map (·.1)) (bs.map V.ref)
  | _, _, _, .nil, .nil => .nil
  | _, _, _, .cons (k := k) hk _ r, .cons e t => by
    refine .cons ?_ (keysT_reps r t)
    cases k with
    | tup ds => exact .tup e (keys_reps hk)
    | _ => cases hk
theorem keysT_pr : ∀ {kvs : List (D × D)} {ks : List (List Key × V)}, RepT w m Z H kvs ks → (kvs.all fun p => isPr p.1) = true → ∀ p ∈ ks, prKey p.1 = true
  | _, _, .nil, _, p, hp => absurd hp (by simp)
  | _, _, .cons (k := k) (q := q) hk _ r, c, p, hp => by
    rw [List.all_cons, Bool.and_eq_true] at c
    rcases List.mem_cons.mp hp with rfl | hp
    · match k, c.1 with
      | .tup [.int i, .str x], _ => cases hk; rfl
    · exact keysT_pr r c.2 p hp
def oSortD (a : RV) (S : Store) : Option RV := match view S a.1 with
  | .dt kvs => if (kvs.all fun p => isPr p.1) = true then some (.lst (sortP (kvs.map (·.1))), .own) else none
  | _ => none
theorem ok_sortD : OkOp1 w (fun x H Q => rSortD [x] H Q) oSortD := by
  intro g ρ S σ H a x q Q rel ha e k
  have l := look_view rel ha
  unfold oSortD at e
  split at e
  · rename_i kvs hd
    split at e
    · rename_i c
      cases e
      rw [hd] at l
      obtain ⟨t, ks, rfl, hr, r⟩ := l.dt
      refine ⟨t, ks, rfl, hr, keysT_pr r c, fun ys p bs hb pm so hp => ?_⟩
      have ok : ∀ d ∈ kvs.map (·.1), isPr d = true := fun d hd' => by
        obtain ⟨p, hp', rfl⟩ := List.mem_map.mp hd'
        exact List.all_eq_true.mp c p hp'
      exact k _ _ (.lst rel (sorted_reps ok (keysT_reps r hb) pm so) hp)
    · cases e
  · cases e
end
end DL

set_option maxRecDepth 100000
set_option maxHeartbeats 2000000
/-! A tuple that is known to be plain; dict(x) of such a tuple of pairs. -/
namespace L2
open PySem PySem.Spec PyProof.Rows
section
variable {X : Cx} {es : List Expr} {t : TA} {pos : Pos}
/-- a new tuple, its object known to have no dict -/
def tTupF (t : TA) : TE := fun σ H Q => t σ H fun xs H1 => xs.length ≤ sizeLine ∧ ∀ (p : Addr) (o : Obj), H1 p = none → o.dict = none → Q (.ref p) (upd H1 p (.frz o (.tup xs)))
theorem pe_tupF {x1} (h : PA X es t) : PE X (.Tuple es x1 pos) (tTupF t) := by
  refine ⟨fun pins s σ H Q I q0 => wpAny_Tuple_spliced (thn (h.run pos pins s σ H _ I q0) fun us s1 ⟨xs, H1, J, rv, few, q⟩ => ⟨by rw [← rv.length]; exact few, ?_⟩)⟩
  exact ⟨.ref s1.heap.objs.size, _, J.laid (t' := s1.toks) (o := .frz _ (.tup xs)) (fun b u e => Heap.get?_push_of_some _ e) (Nat.le_refl _) ⟨Heap.get?_push_size _ rfl, few, us, rv, ⟨_, Heap.get?_push_size _ rfl, rfl, _, rfl⟩⟩, rfl, q _ _ (J.hok.fresh (Nat.le_refl _)) rfl⟩
/-- the pairs of a row, as they stand in the heap -/
theorem row_pairs {pins : List (Addr × Obj)} {σ : St} {H : Hp} {s : Shared} (I : Inv X pins σ H s) : ∀ {ps : List Addr} {kvs : List (Key × V)}, Paired (fun p kv => SqT X.K H p [kV kv.1, kv.2]) ps kvs →
    ∃ (prs : List (Key × Value)) (vps : List (Value × Value)), KV kvs prs ∧ prs.length = ps.length ∧ vps.length = ps.length ∧
      ∀ (j : Nat) (u y : Value), vps[j]? = some (u, y) → ∃ b k, ps[j]? = some b ∧ prs[j]? = some (k, y) ∧ IsTup s.heap b #[u, y] ∧ keyIs k u = true
  | _, _, .nil => ⟨[], [], .nil, rfl, rfl, fun j u y e => by simp at e⟩
  | _, _, .cons (a := p) (b := kv) h t => by
    obtain ⟨prs, vps, r, l1, l2, each⟩ := row_pairs I t
    obtain ⟨its, rv, tup, _⟩ := I.tuple h
    obtain ⟨u, y, rfl, ru, ry⟩ := vals2 rv
    refine ⟨(kv.1, y) :: prs, (u, y) :: vps, .cons ⟨rfl, ry⟩ r, by simp [l1], by simp [l2], fun j u' y' e => ?_⟩
    cases j with
    | zero =>
      cases Option.some.inj e
      exact ⟨p, kv.1, rfl, rfl, tup, kV_is (P := X.prog) (w := X.w) ru⟩
    | succ j =>
      obtain ⟨b, k, e1, e2, e3⟩ := each j u' y' (by simpa using e)
      exact ⟨b, k, by simpa using e1, by simpa using e2, e3⟩
/-- dict(x), x a tuple of pairs that is known to be plain -/
def rDictF (K : PySem.W.Frag) : List V → Hp → VK → Prop := fun xs H Q => ∃ (a : Addr) (o : Obj) (ps : List Addr) (kvs : List (Key × V)), xs = [.ref a] ∧ H a = some (.frz o (.tup (ps.map V.ref))) ∧ o.dict = none ∧ Paired (fun p kv => SqT K H p [kV kv.1, kv.2]) ps kvs ∧
  ∀ p, H p = none → Q (.ref p) (upd H p (.dK (mergeK [] kvs)))
theorem call_dictF (hc : X.calm = true) : CallR X (.type "dict") (rDictF X.K) := by
  intro pins s σ H xs us Q I r h
  obtain ⟨a, o, ps, kvs, rfl, ha, od, hp, q⟩ := h
  obtain ⟨u, rfl, ru⟩ := vals1 r
  cases ru
  obtain ⟨at_, few, its, rv, o', ho', cls, n, dat⟩ := I.hok _ _ ha
  have eo : o' = o := by rw [at_] at ho'; exact (Option.some.inj ho').symm
  subst eo
  have ei := refs_at rv
  subst ei
  rw [List.length_map] at few
  obtain ⟨prs, vps, kv, l1, l2, each⟩ := row_pairs I hp
  have arg := PySem.PairArg.tuple (prog := X.prog) (w := X.w) a (ps.map Value.ref).toArray (fun j => ps.getD j 0) vps
  refine PySem.call_dict_pairs (knd := mixKind X.prog X.w) (kvs := prs) arg (I.ok.hd hc) ⟨⟨o', n, at_, cls, od, dat⟩, by simp [l2], fun j k v e => ?_⟩ ⟨by rw [l1, l2], fun i key v e => ?_⟩ (by rw [l2]; exact few) fun h' tk dict old => ?_
  · obtain ⟨b, k', e1, _, tup, _⟩ := each j k v e
    refine ⟨?_, .inl ?_⟩
    · show _ = some (Value.ref (ps.getD j 0))
      rw [List.getElem?_toArray, List.getElem?_map, e1, List.getD_eq_getElem?_getD, e1]; rfl
    · show s.heap.IsTuple (ps.getD j 0) _
      rw [List.getD_eq_getElem?_getD, e1]; exact tup
  · obtain ⟨b, k', _, e2, _, is⟩ := each i key v e
    exact ⟨k', e2, is⟩
  · have low : (s.heap.objs.size == sysModules) = false := beq_eq_false_iff_ne.mpr (Nat.ne_of_gt I.big)
    have len : (mergeK [] kvs).length ≤ sizeLine := by
      have := length_mergeK kvs []
      rw [List.length_nil, Nat.zero_add, kv.length, l1] at this
      omega
    exact ⟨.ref s.heap.objs.size, upd H s.heap.objs.size (.dK (mergeK [] kvs)), I.laid (t' := tk) (fun b u e => old b u (by simp) e) (Nat.le_refl _) (show ObjOk X.prog X.w _ _ _ (.dK (mergeK [] kvs)) from ⟨len, low, merged [] prs, KV.merge kv .nil, dict⟩), rfl, q _ (I.hok.fresh (Nat.le_refl _))⟩
end
end L2

set_option maxRecDepth 100000
set_option maxHeartbeats 2000000
/-! The value layer: a plain tuple; dict(list or plain tuple of pairs). -/
namespace DL
open PySem L2
section
variable {X : Cx} {w : Wd} {W : WX}
def sTupF (fs : SA) : SE := fun ρ S => (fs ρ S).bind fun rs S1 => if rs.all leakOk = true ∧ rs.length ≤ sizeLine then .ok (.ftp (rs.map (·.1)), .sh) S1 else .bad
theorem ROk.ftp {g : G} {ρ : Loc} {S : Store} {σ : St} {H : Hp} {ds : List D} {vs : List V} {p : Addr} {o : Obj} (r : Rel w g ρ S σ H) (h : Reps w g.m g.Z H ds vs) (hp : H p = none) (ho : o.dict = none) :
    ROk w g H ρ σ (.ftp ds, .sh) S (.ref p) (upd H p (.frz o (.tup vs))) :=
  ⟨g.m, .new hp, r.new hp, .ftp upd_same ho ((StepE.new hp).reps h)⟩
theorem e_tupF {es : List Expr} {fs : SA} {k : Nat} {pos : Pos} (h : PA X es (rdA w W fs)) : PE X (.Tuple es k pos) (rdE w W (sTupF fs)) := by
  refine PE.imp (pe_tupF h) fun σ H Q ⟨g, ρ, S, rel, h⟩ => ?_
  refine rdA_imp (bindA rel h goodE) fun vs H1 ⟨rs, S1, m1, s1, rel1, as, _, h1⟩ => ?_
  split at h1
  · rename_i c
    exact ⟨by rw [← as.length]; exact c.2, fun p o hp ho => h1 _ _ (ROk.ftp rel1 (as.reps c.1) hp ho)⟩
  · exact h1.elim
/-- a pair, its key one of a dict -/
def prOf : D → Option (D × D)
  | .tup [k, v] => if (dKey k).isSome = true then some (k, v) else none
  | _ => none
def prsOf : List D → Option (List (D × D))
  | [] => some []
  | d :: ds => match prOf d, prsOf ds with
    | some p, some ps => some (p :: ps)
    | _, _ => none
theorem prsOf_cons {d : D} {ds : List D} {kvs : List (D × D)} (h : prsOf (d :: ds) = some kvs) : ∃ p ps, prOf d = some p ∧ prsOf ds = some ps ∧ kvs = p :: ps := by
  unfold prsOf at h
  split at h
  · rename_i p ps e1 e2
    cases h
    exact ⟨p, ps, e1, e2, rfl⟩
  · cases h
theorem prOf_eq {d k v : D} (h : prOf d = some (k, v)) : d = .tup [k, v] ∧ ∃ q, dKey k = some q := by
  unfold prOf at h
  split at h
  · rename_i k' v'
    split at h
    · rename_i c
      cases h
      exact ⟨rfl, Option.isSome_iff_exists.mp c⟩
    · cases h
  · cases h
theorem prs_reps {m : List Addr} {Z : Addr → Prop} {H : Hp} : ∀ {ds : List D} {vs : List V} {kvs : List (D × D)}, prsOf ds = some kvs → Reps w m Z H ds vs →
    ∃ (ps : List Addr) (ks : List (Key × V)), vs = ps.map V.ref ∧ RepK w m Z H kvs ks ∧ Paired (fun p kv => SqT w.K H p [kV kv.1, kv.2]) ps ks ∧ kvs.length = ds.length
  | [], _, _, h, r => by
    cases h
    cases r
    exact ⟨[], [], rfl, .nil, .nil, rfl⟩
  | d :: ds, _, _, h, r => by
    obtain ⟨⟨k, v⟩, ps', e1, e2, rfl⟩ := prsOf_cons h
    obtain ⟨rfl, q, hq⟩ := prOf_eq e1
    cases r with
    | cons r1 r2 =>
      obtain ⟨ps, ks, rfl, rk, pd, ln⟩ := prs_reps e2 r2
      obtain ⟨a, us, rfl, sq, ru⟩ := Look.tup (.inl r1)
      cases ru with
      | cons r3 r4 =>
        cases r4 with
        | cons r5 r6 =>
          cases r6
          rw [key_of (.inl r3) hq] at sq
          exact ⟨a :: ps, (q, _) :: ks, rfl, .cons hq r5 rk, .cons sq pd, by simp [ln]⟩
theorem RepK.fresh {m : List Addr} {Z : Addr → Prop} {H : Hp} {kvs : List (D × D)} {ks : List (Key × V)} {p : Addr} {o : HO} (h : RepK w m Z H kvs ks) (hp : H p = none) : RepK w m (fun b => Z b ∨ b = p) (upd H p o) kvs ks :=
  (RepK.mono (mono_z (Z' := fun b => Z b ∨ b = p) fun b q => q.elim .inl fun q => .inr (by rw [q]; exact hp)) h).mono ((StepE.new hp).mono fun _ q => q)
/-- dict(x) -/
def oDictP (a : RV) (S : Store) : Option RV := match view S a.1 with
  | .lst ds => if ds.length ≤ 1000000 then (prsOf ds).map fun kvs => (.dk (mergeD [] kvs), .own) else none
  | .ftp ds => if ds.length ≤ 1000000 then (prsOf ds).map fun kvs => (.dk (mergeD [] kvs), .own) else none
  | _ => none
def rDictA (K : PySem.W.Frag) : List V → Hp → VK → Prop := fun xs H Q => (∃ (a : Addr) (ps : List Addr) (kvs : List (Key × V)), xs = [.ref a] ∧ SqL K H a (ps.map V.ref) ∧ Paired (fun p kv => SqT K H p [kV kv.1, kv.2]) ps kvs ∧
    ∀ p, H p = none → Q (.ref p) (upd H p (.dK (mergeK [] kvs)))) ∨ rDictF K xs H Q
theorem call_dictA (hc : X.calm = true) : CallR X (.type "dict") (rDictA X.K) := fun pins s σ H xs us Q I r h => h.elim (call_dictP hc pins s σ H xs us Q I r) (call_dictF hc pins s σ H xs us Q I r)
theorem ok_dictP (hK : X.K = w.K) : OkOp1 w (fun x H Q => rDictA X.K [x] H Q) oDictP := by
  intro g ρ S σ H a x q Q rel ha e k
  have l := look_view rel ha
  unfold oDictP at e
  split at e
  · rename_i ds hd
    split at e
    rotate_left
    · cases e
    obtain ⟨kvs, hk, rfl⟩ := Option.map_eq_some_iff.mp e
    rw [hd] at l
    obtain ⟨p, vs, rfl, hs, r⟩ := l.lists (.inl rfl)
    obtain ⟨ps, ks, rfl, rk, pd, _⟩ := prs_reps hk r
    refine .inl ⟨p, ps, ks, rfl, hK ▸ hs, hK ▸ pd, fun t ht => k _ _ (.box rel ht (.dk upd_same ?_))⟩
    exact RepK.merge (rk.fresh ht) .nil
  · rename_i ds hd
    split at e
    rotate_left
    · cases e
    obtain ⟨kvs, hk, rfl⟩ := Option.map_eq_some_iff.mp e
    rw [hd] at l
    cases l.rep rfl with
    | ftp hq ho r =>
      obtain ⟨ps, ks, rfl, rk, pd, _⟩ := prs_reps hk r
      refine .inr ⟨_, _, ps, ks, rfl, hq, ho, hK ▸ pd, fun t ht => k _ _ (.box rel ht (.dk upd_same ?_))⟩
      exact RepK.merge (rk.fresh ht) .nil
    | box b => cases b
  · cases e
end
end DL

set_option maxRecDepth 100000
set_option maxHeartbeats 4000000
/-! set(list of numbers), as a set that can be sorted. -/
namespace L2
open PySem PySem.Spec PyProof.Rows
/-- a new set -/
abbrev nS (w : World) : Obj := { cls := .type "set", dict := none, data := .set #[] 0 (.fresh 0 0 (!w.params.followText "set-order")) }
section
variable {P : Program} {w : World} {A : Around} {E : Value → Shared → Prop} {s : Shared}
/-- its first filling, by a list -/
theorem fill_list {S l : Addr} {items : Array Value} (ns : List Int) (free : A.handled = none) (here : s.heap.get? S = some (nS w)) (row : s.heap.IsList l items) (iz : IntsAre items.toList ns) (few : ns.length + 1 < scanBound) :
    codeAny (model P w) A (.call (.builtin "set.__init__") ⟨[.ref S, .ref l], []⟩) (wants (fun r z => r = .none ∧ ∃ (g : Heap) (tk c : Nat), z = { s with heap := g, toks := tk } ∧ SetR w g S (fun j => decide (j ∈ ns)) c ∧ c ≤ ns.length ∧ ∀ b o, b ≠ S → s.heap.get? b = some o → g.get? b = some o) E) s := by
  have cnt : items.size = ns.length := by
    have q := IntsAre.length iz
    simpa using q
  have ty : s.TypeIs (.ref S) "set" := ⟨_, here, rfl⟩
  refine codeAny_call_builtin F.called_set.init.plain F.entry_set_init (check_set_init_1 ty ?_)
  obtain ⟨ol, at_, cls, n, dat⟩ := row
  obtain ⟨oc, od, oa, os⟩ := ol
  simp only at cls dat
  subst cls dat
  have row : s.heap.IsList l items := ⟨_, at_, rfl, n, rfl⟩
  have u1 := F.sub_list_set
  have u2 := F.sub_list_frozenset
  have u3 : (Value.type "list" == Value.type "dict") = false := by decide
  unfold Builtin.«set.__init__» noKeywords Builtin.Frozenset.updateFrom
  generalize walk : pyIter = W
  wp_walk
  subst walk
  have lS : l < s.heap.objs.size := Heap.lt_size at_
  have sS : S < s.heap.objs.size := Heap.lt_size here
  obtain ⟨o, eo⟩ : ∃ o : Obj, o = { cls := .type "list_iterator", data := .fields #[.ref l, .int 0 0] } := ⟨_, rfl⟩
  have on : ∀ b u, s.heap.get? b = some u → (s.heap.push o).get? b = some u := fun b u e => Heap.get?_push_of_some _ e
  refine wpAny_pyIter_list row (wpAny_bind (wpAny_runValue ?_))
  rw [← eo]
  have it : (s.heap.push o).IsListIter s.heap.objs.size l 0 := ⟨o, Heap.get?_push_size _ (by rw [eo]; rfl), by rw [eo], by rw [eo]; rfl⟩
  refine set_update_ints (St := fun i z => z.heap.IsListIter s.heap.objs.size l i ∧ z.heap.IsList l items) ((Walks.list (by simp [free]) s.heap.objs.size l (Nat.ne_of_lt lS) items).toS) S (by
      simp only [List.mem_cons, List.not_mem_nil, or_false, not_or]
      exact ⟨Nat.ne_of_lt sS, fun z => by
        have q := here
        rw [z, at_] at q
        exact absurd (Value.type.inj (congrArg Obj.cls (Option.some.inj q))) (by decide)⟩) ns cnt few (fun i v e => ?_) items.size 0 _ (by omega) (Nat.zero_le _) ⟨it, row.at fun u e => on _ u e⟩ ⟨0, Nat.le_refl 0, setR_new_at (on _ _ here)⟩ fun z c mv lc R => ?_
  · have li : i < ns.length := by rw [← cnt]; exact (Array.getElem?_eq_some_iff.mp e).1
    obtain ⟨t, q⟩ := IntsAre.int_at iz i v (by rw [Array.getElem?_toList]; exact e)
    refine ⟨ns[i], t, List.getElem?_eq_getElem li, ?_⟩
    rw [q, List.getD_eq_getElem?_getD, List.getElem?_eq_getElem li]
    rfl
  · obtain ⟨g, gn, dr, tk, so⟩ := z
    have q1 : gn = s.gens := mv.gens
    have q2 : dr = s.drawn := mv.drawn
    have q3 : so = s.os := mv.os
    subst q1 q2 q3
    refine wpAny_pure (show wpAny _ _ (ret Value.none) _ _ _ from wpAny_pure ⟨rfl, g, tk, c, rfl, R, by omega, fun b u ne e => mv.heap b u ?_ (on b u e)⟩)
    simp only [List.mem_cons, List.not_mem_nil, or_false, not_or]
    exact ⟨ne, Nat.ne_of_lt (Heap.lt_size e)⟩
theorem set_of_list {l : Addr} {items : Array Value} (ns : List Int) {Q : Value → Shared → Prop} (free : A.handled = none) (row : s.heap.IsList l items) (iz : IntsAre items.toList ns) (few : ns.length + 1 < scanBound)
    (fin : ∀ (g : Heap) (tk c : Nat), SetR w g s.heap.objs.size (fun j => decide (j ∈ ns)) c → c ≤ ns.length → (∀ b o, s.heap.get? b = some o → g.get? b = some o) → Q (.ref s.heap.objs.size) { s with heap := g, toks := tk }) :
    wpAny (model P w) A (call (.type "set") [.ref l]) Q E s := by
  have cnt : items.size = ns.length := by
    have q := IntsAre.length iz
    simpa using q
  have m0 := F.called_set
  obtain ⟨c0, t0, p1⟩ := m0.mro
  have p2 := m0.made
  have p3 := m0.sub
  have p4 := m0.notType
  have p5 := m0.canCreate
  have p6 := F.typeCall_set_1 (.ref l)
  refine wpAny_call (codeAny_of_tree (show wpAny _ _ (callAny (.type "set") _) _ _ _ from wpAny_pure ⟨Code.quiet_builtin _ (by decide +kernel), codeAny_builtin F.entry_type_call ?_⟩))
  rw [Around.under_plain (weight_type_call_type "set" [.ref l] []) rfl]
  repeat (any_goals (first | wp_step | assumption))
  refine codeAny_mono (code_set_led1 (.ref l) (E := E) (Q₁ := fun v z => v = .ref s.heap.objs.size ∧ z = { s with heap := s.heap.push (nS w) }) ⟨rfl, rfl⟩) fun r z hr => ?_
  match r, hr with
  | .error e, hr => exact hr
  | .ok (.ret v), hr =>
    obtain ⟨rfl, rfl⟩ := hr
    have at_ : (s.heap.push (nS w)).get? s.heap.objs.size = some (nS w) := Heap.get?_push_size _ rfl
    have ty : Shared.TypeIs { s with heap := s.heap.push (nS w) } (.ref s.heap.objs.size) "set" := ⟨_, at_, rfl⟩
    have i1 := m0.init.lookup
    have i2 := m0.init.bind (.ref s.heap.objs.size)
    repeat (any_goals (first | wp_step | assumption))
    refine codeAny_mono (fill_list (E := E) (s := { s with heap := s.heap.push (nS w) }) ns (by simp [free]) at_ (row.push _) iz few) fun r z hz => ?_
    match r, hz with
    | .error e, hz => exact hz
    | .ok (.ret v), hz =>
      obtain ⟨rfl, g, tk, c, rfl, R, lc, old⟩ := hz
      repeat (any_goals (first | wp_step | assumption))
      exact fin g tk c R lc fun b u e => old b u (Nat.ne_of_lt (Heap.lt_size e)) (Heap.get?_push_of_some _ e)
end
/-- set(xs), xs a list of numbers; then sorted of it: in the set's own words -/
def rSetNs (K : PySem.W.Frag) (w : World) : List V → Hp → VK → Prop := fun vs H Q => ∃ (a : Addr) (ns : List Int), vs = [V.ref a] ∧ SqL K H a (ns.map V.int) ∧ ns.length < 1000 ∧
  ∀ (p : Addr) (c : Nat), c ≤ ns.length → H p = none → Q (.ref p) (upd H p (SetO w p (fun j => decide (j ∈ ns)) c))
section
variable {X : Cx}
theorem call_setL (hc : X.calm = true) : CallR X (.type "set") (rSetNs X.K X.w) := by
  intro pins s σ H vs us Q I r h
  obtain ⟨a, ns, rfl, hs, few, fin⟩ := h
  obtain ⟨its, rv, pl, _⟩ := I.list hs
  obtain ⟨u, rfl, ru⟩ := vals1 r
  cases ru
  refine set_of_list ns (I.ok.hd hc) pl.isList (by simpa using rv.ints) (by unfold scanBound; omega) fun g tk c R lc old => ?_
  exact ⟨.ref s.heap.objs.size, _, I.laid (t' := tk) old (Nat.le_refl _) (setO_new R), rfl, fin _ c lc (I.hok.fresh (Nat.le_refl _))⟩
end
end L2

set_option maxRecDepth 100000
set_option maxHeartbeats 2000000
/-! The value layer: sorted(set(list of numbers)). -/
namespace DL
open PySem L2
def dedupI : List Int → List Int
  | [] => []
  | x :: r => if x ∈ r then dedupI r else x :: dedupI r
theorem mem_dedupI {k : Int} : ∀ ns : List Int, k ∈ dedupI ns ↔ k ∈ ns
  | [] => Iff.rfl
  | x :: r => by
    unfold dedupI
    have ih := mem_dedupI (k := k) r
    by_cases h : x ∈ r
    · rw [if_pos h, ih, List.mem_cons]
      exact ⟨.inr, fun q => q.elim (fun e => e ▸ h) id⟩
    · rw [if_neg h, List.mem_cons, List.mem_cons, ih]
theorem nodup_dedupI : ∀ ns : List Int, (dedupI ns).Nodup
  | [] => List.nodup_nil
  | x :: r => by
    unfold dedupI
    by_cases h : x ∈ r
    · rw [if_pos h]; exact nodup_dedupI r
    · rw [if_neg h]
      exact List.nodup_cons.mpr ⟨fun q => h ((mem_dedupI r).mp q), nodup_dedupI r⟩
/-- the numbers of a row, each once, ascending -/
def setI (ns : List Int) : List Int := sortI (dedupI ns)
theorem mem_setI {k : Int} {ns : List Int} : k ∈ setI ns ↔ k ∈ ns := (sortI_perm _).mem_iff.trans (mem_dedupI ns)
theorem setI_of {a ns : List Int} (s : a.Pairwise (· < ·)) (m : ∀ k : Int, k ∈ a ↔ k ∈ ns) : a = setI ns := by
  refine sortI_of ?_ (s.imp fun h => Int.le_of_lt h)
  refine (List.perm_ext_iff_of_nodup (s.imp fun h => Int.ne_of_lt h) (nodup_dedupI ns)).mpr fun k => ?_
  rw [m k, mem_dedupI]
section
variable {X : Cx} {w : Wd} {W : WX}
def oSortSet (a : RV) (S : Store) : Option RV := (intsOf a S).bind fun ns => if ns.length < 64 then some (.lst ((setI ns).map D.int), .own) else none
def rSortSet (K : PySem.W.Frag) (wd : World) : List V → Hp → VK → Prop := fun xs H Q => rSetNs K wd xs H fun v H1 => rSortedSet wd [v] H1 Q
theorem ok_sortSet (hK : X.K = w.K) : OkOp1 w (fun x H Q => rSortSet X.K X.w [x] H Q) oSortSet := by
  intro g ρ S σ H a x q Q rel ha e k
  unfold oSortSet at e
  obtain ⟨ns, hn, e⟩ := Option.bind_eq_some_iff.mp e
  split at e
  · rename_i few
    cases e
    obtain ⟨p, rfl, hs⟩ := Look.intsD rel ha hn
    refine ⟨p, ns, rfl, hK ▸ hs, by omega, fun t c lc ht => ⟨t, _, c, rfl, upd_same, by omega, fun as l so mem _ hl => ?_⟩⟩
    rw [setI_of (ns := ns) so fun k => by rw [mem k, decide_eq_true_eq]]
    exact k _ _ (ROk.trans (.new ht) (.lst (rel.new ht) (reps_ints' _) hl))
  · cases e
theorem e_sortSet {x y : Str} {e : Expr} {f : SE} {p q q2 pos : Pos} (hK : X.K = w.K) (hc : X.calm = true) (b : BN X x (.builtin "sorted")) (b2 : BN X y (.type "set")) (c : C1 X (.Call (.Name y q) [e] [] q2) pos) (c2 : C1 X e q2) (h : PE X e (rdE w W f)) :
    PE X (.Call (.Name x p) [.Call (.Name y q) [e] [] q2] [] pos) (rdE w W (sB1 oSortSet f)) := by
  refine PE.imp (pe_callB (cr_sortedSet hc) b.gl b.mg b.bt (pa_cons (pe_callTy (call_setL hc) b2.gl b2.mg b2.bt (a_1 c2.s h) b2.n1 b2.n2 c2.s c2.p) pa_nil c.s) b.n1 b.n2 c.s c.p) fun σ H Q hq => ?_
  exact rd_opN (r := rSortSet X.K X.w) (ok_on1 (ok_sortSet hK)) hq
end
end DL

set_option maxRecDepth 100000
set_option maxHeartbeats 2000000
/-! The value layer: tuple(range(a, b)). -/
namespace DL
open PySem L2
section
variable {w : Wd} {W : WX} {X : Cx}
def sTupRg2 (f u : SE) : SE := fun ρ S => (f ρ S).bind fun r S1 => (u ρ S1).bind fun q S2 => match r.1, q.1 with
  | .int a, .int b => if -(2 ^ 40) ≤ a ∧ a ≤ 2 ^ 40 ∧ -(2 ^ 40) ≤ b ∧ b ≤ 2 ^ 40 ∧ b - a ≤ 16777216 then .ok (.tup (rngD a (b - a).toNat), .sh) S2 else .bad
  | _, _ => .bad
theorem rg2_ok {a b : Int} (c : -(2 ^ 40) ≤ a ∧ a ≤ 2 ^ 40 ∧ -(2 ^ 40) ≤ b ∧ b ≤ 2 ^ 40 ∧ b - a ≤ 16777216) : RgOk a b := by
  refine ⟨?_, ?_, ?_, ?_, ?_⟩ <;> omega
theorem e_tupRg2 {a b : Expr} {f u : SE} {p p2 pos pos2 : Pos} (bt : BN X "tuple" (.type "tuple")) (b2 : BN X "range" (.type "range")) (ha : PE X a (rdE w W f)) (hb : PE X b (rdE w W u)) (na : starEach [a, b] X.env = (false, eval a X.env) :: starEach [b] X.env)
    (nb : starEach [b] X.env = (false, eval b X.env) :: starEach [] X.env) (np : (backTo pos2 (starEach [b] X.env)).any (·.1) = false)
    (nc : starEach [.Call (.Name "range" p2) [a, b] [] pos2] X.env = (false, eval (.Call (.Name "range" p2) [a, b] [] pos2) X.env) :: starEach [] X.env) (hc : X.calm = true) : PE X (.Call (.Name "tuple" p) [.Call (.Name "range" p2) [a, b] [] pos2] [] pos) (rdE w W (sTupRg2 f u)) := by
  refine PE.imp (pe_tupRg hc bt.gl bt.mg (prg_2 b2.gl b2.mg ha hb na nb np) nc) fun σ H Q ⟨g, ρ, S, rel, h⟩ => ?_
  refine rdE_imp (bindE rel h goodE) fun x H1 ⟨r1, S1, m1, s1, rel1, res1, _, h1⟩ => ?_
  refine rdE_imp (bindE rel1 h1 goodE) fun y H2 ⟨r2, S2, m2, s2, rel2, res2, _, h2⟩ => ?_
  split at h2
  rotate_left
  · exact h2.elim
  rename_i i j ei ej
  split at h2
  rotate_left
  · exact h2.elim
  rename_i c
  have l1 := (s2.arg res1.arg).read.look
  rw [ei] at l1
  have l2 := res2.arg.read.look
  rw [ej] at l2
  exact ⟨i, j, l1.int, l2.int, rg2_ok c, fun q hq => h2 _ _ (.tup rel2 (reps_rng i j) hq)⟩
end
end DL

set_option maxRecDepth 100000
set_option maxHeartbeats 2000000
/-! The value layer: for over a list with a name of its own, that stays as it is while it is walked. -/
namespace DL
open PySem L2
section
variable {w : Wd} {W : WX} {X : Cx}
open Classical in
noncomputable def forO (n : Nat) (ds0 : List D) (t : Tgt) (b : SS) : List D → Loc → Store → O
  | [], ρ, S => if S[n]? = some (.lst ds0) then .nx ρ S else .bad
  | d :: ds, ρ, S => if S[n]? = some (.lst ds0) then (match t d ρ with
    | none => .bad
    | some ρ1 => match b ρ1 S with
      | .nx ρ2 S2 => forO n ds0 t b ds ρ2 S2
      | .ct ρ2 S2 => forO n ds0 t b ds ρ2 S2
      | .bk ρ2 S2 => .nx ρ2 S2
      | o => o) else .bad
noncomputable def sForO (f : SE) (t : Tgt) (b : SS) : SS := fun ρ S => goS (f ρ S) ρ fun r S1 => match r.1 with
  | .obj n => (match S1[n]? with
    | some (.lst ds) => forO n ds t b ds ρ S1
    | _ => .bad)
  | _ => .bad
/-- where a named list stands, later on -/
theorem named_later {g g' : G} {H H' : Hp} {ρ : Loc} {S : Store} {σ : St} {n : Nat} {a : Addr} {ds : List D} (st : StepS g H g' H') (ha : g.m[n]? = some a) (rel : Rel w g' ρ S σ H') (e : S[n]? = some (.lst ds)) : ∃ vs, H' a = some (.lst vs) ∧ Reps w g'.m g'.Z H' ds vs := by
  obtain ⟨ex, hm, _⟩ := st.ms
  have ha' : g'.m[n]? = some a := by rw [hm, List.getElem?_append_left (List.getElem?_eq_some_iff.mp ha).1]; exact ha
  obtain ⟨a', q, bx⟩ := rel.sto.at_ n _ e
  have : a' = a := by rw [ha'] at q; exact (Option.some.inj q).symm
  subst this
  cases bx with
  | lst h r => exact ⟨_, h, r⟩
theorem st_forO {iter tg : Expr} {body : List Stmt} {ns : List Nat} {f : SE} {t : Tgt} {b : SS} {pos : Pos} (hp : PassesOwn (model X.prog X.w) X.A X.env X.xe) (hc : X.calm = true) (hs : ∀ x, foldedSetIterable iter X.env x = pure x) (he : PE X iter (rdE w W f)) (hg : PG X tg (rdG w ns t)) (hb : PSs X body (rdS w W b)) :
    PS X (.For tg iter body [] pos) (rdS w W (sForO f t b)) := by
  refine PS.imp (ps_for hp hc (pi_list he) hg hb hs) fun De σ H ⟨g, ρ, S, rel, h⟩ => ?_
  refine rdE_imp (bindE rel h goodS) fun x H1 ⟨r1, S1, m1, s1, rel1, res1, _, h1⟩ => ?_
  obtain ⟨d1, fl1⟩ := r1
  split at h1
  rotate_left
  · exact h1.elim
  rename_i n eo
  cases eo
  split at h1
  rotate_left
  · exact h1.elim
  rename_i ds es
  obtain ⟨a, vs, rfl, ha, hl, _⟩ := named_lst rel1 res1.arg es
  have h1 : PostS w W De (g.at m1) H1 (forO n ds t b ds ρ S1) := h1
  refine ⟨a, rfl, ⟨vs, .of hl⟩, fun i m σ' H' => m + i = ds.length ∧ ∃ g' ρ' S', StepS (g.at m1) H1 g' H' ∧ Rel w g' ρ' S' σ' H' ∧ PostS w W De g' H' (forO n ds t b (ds.drop i) ρ' S'), ⟨ds.length, rfl, g.at m1, ρ, S1, .refl _ _, rel1, h1⟩, ?_⟩
  rintro i m σ' H' ⟨hm, g', ρ', S', st, rel', post⟩
  by_cases hi : i < ds.length
  · right
    rw [List.drop_eq_getElem_cons hi, forO] at post
    split at post
    rotate_left
    · exact post.elim
    rename_i es'
    obtain ⟨us, hu, ru⟩ := named_later (g := g.at m1) st ha rel' es'
    have lu := ru.length
    refine ⟨⟨us, us[i]'(by rw [← lu]; exact hi), .of hu, by simp [← lu, hi]⟩, fun σ'' H'' => m - 1 + (i + 1) = ds.length ∧ ∃ g' ρ' S', StepS (g.at m1) H1 g' H'' ∧ Rel w g' ρ' S' σ'' H'' ∧ PostS w W De g' H'' (forO n ds t b (ds.drop (i + 1)) ρ' S'), fun σ'' H'' q => ⟨m - 1, by omega, q⟩, fun x Hx y => ?_⟩
    obtain ⟨rfl, yv⟩ := y
    have hd : ds[i]? = some ds[i] := by simp [hi]
    obtain ⟨v, hv, rv⟩ := ru.get hd
    have ex := yv us (.of hu)
    rw [hv] at ex
    cases ex
    cases e : t ds[i] ρ' with
    | none => rw [e] at post; exact post.elim
    | some ρ1 =>
      rw [e] at post
      refine ⟨g', ρ', S', _, ρ1, rel', rv, e, fun σ2 rel2 _ => ⟨g', ρ1, S', rel2, ?_⟩⟩
      dsimp only at post
      cases e2 : b ρ1 S' with
      | nx ρ2 S2 => rw [e2] at post; exact fun σ3 H3 ⟨g3, st3, rel3⟩ => ⟨by omega, g3, ρ2, S2, st.trans st3, rel3, post.step st3⟩
      | ct ρ2 S2 => rw [e2] at post; exact fun σ3 H3 ⟨g3, st3, rel3⟩ => ⟨by omega, g3, ρ2, S2, st.trans st3, rel3, post.step st3⟩
      | bk ρ2 S2 => rw [e2] at post; exact post
      | rt r S2 => rw [e2] at post; exact post
      | ex x ρ2 S2 => rw [e2] at post; exact post
      | bad => rw [e2] at post; exact post
  · left
    rw [List.drop_eq_nil_of_le (by omega), forO] at post
    split at post
    rotate_left
    · exact post.elim
    rename_i es'
    obtain ⟨us, hu, ru⟩ := named_later (g := g.at m1) st ha rel' es'
    exact ⟨⟨us, .of hu, by rw [← ru.length]; omega⟩, post σ' H' ⟨g', .refl _ _, rel'⟩⟩
theorem stForO {iter tg : Expr} {body : List Stmt} {ns : List Nat} {f : SE} {t : Tgt} {b : SS} {pos : Pos} (hp : PassesOwn (model X.prog X.w) X.A X.env X.xe) (he : PE X iter (rdE w W f)) (hg : PG X tg (rdG w ns t)) (hb : PSs X body (rdS w W b)) (hc : X.calm = true := by rfl)
    (hs : ∀ x, foldedSetIterable iter X.env x = pure x := by exact fun _ => rfl) : PS X (.For tg iter body [] pos) (rdS w W (sForO f t b)) := st_forO hp hc hs he hg hb
end
end DL

set_option maxRecDepth 100000
set_option maxHeartbeats 2000000
/-! The value layer: an exception whose class has its own __init__, raised; a field of a caught exception. -/
namespace DL
open PySem L2
/-! ### B.__init__(self, ..), B an own class that has no __init__ of its own -/
structure OvI (K : PySem.W.Frag) (B : Addr) (mc : Value) : Prop where
  cr : ClX.CRead K B mc
  at_ : PySem.W.findCls K (.ref B) mc "__init__" = some (.val (.builtin "ValueError.__init__"))
def isVI : Option PySem.W.CFound → Bool
  | some (.val (.builtin b)) => decide (b = "ValueError.__init__")
  | _ => false
theorem isVI_ok {o : Option PySem.W.CFound} (h : isVI o = true) : o = some (.val (.builtin "ValueError.__init__")) := by
  unfold isVI at h
  split at h
  · rw [of_decide_eq_true h]
  · cases h
def ovB (K : PySem.W.Frag) (B : Addr) (mc : Value) : Bool := PySem.W.readsIn K B mc && (decide (PySem.W.specialIn K (.ref B) "__getattribute__" = some (some (.builtin "type.__getattribute__"))) && isVI (PySem.W.findCls K (.ref B) mc "__init__"))
theorem ovB_ok {K : PySem.W.Frag} {B : Addr} {mc : Value} (h : ovB K B mc = true) : OvI K B mc := by
  obtain ⟨h1, h⟩ := and2 h
  obtain ⟨h2, h3⟩ := and2 h
  exact ⟨⟨h1, of_decide_eq_true h2⟩, isVI_ok h3⟩
section
variable {w : Wd} {W : WX} {X : Cx} {B : Addr} {mc : Value} {o e : Expr} {es : List Expr} {pos apos : Pos} {t : TA} {pl : Sem Bool}
theorem pe_ovi (he : PE X o (tC (.ref B))) (c : OvI X.K B mc) (ha : PA X (e :: es) t)
    (hst : starEach (e :: es) X.env = (false, eval e X.env) :: starEach es X.env) (hpl : (backTo pos (starEach es X.env)).any (·.1) = false)
    (ht : eval (.Call (.Attribute o "__init__" apos) (e :: es) [] pos) X.env = (do
      let ov ← eval o X.env
      standAt apos.atName
      let (f, first) ← holding [ov] (getMethod ov "__init__" pl)
      callWith pos f first (backTo pos (starEach (e :: es) X.env)) (backToKw pos (keywordEach [] X.env)))) :
    PE X (.Call (.Attribute o "__init__" apos) (e :: es) [] pos) (tVeI X.K t) := by
  refine ⟨fun pins s σ H Q I h => ?_⟩
  refine PySem.W.methodCall_KW (pl := pl) (thn (he.run pins s σ H (fun x H1 => x = .ref B ∧ tVeI X.K t σ H1 Q) I ⟨rfl, h⟩) fun u s1 ⟨x, H1, I1, rx, ex, q⟩ => ?_) ht
  subst ex
  obtain rfl : u = Value.ref B := rx
  refine PySem.W.method_cls I1.kIn c.cr.ga (PySem.W.cls_value I1.kIn c.cr.rd c.at_ rfl ?_)
  show wpAny _ _ (callWith pos (Value.builtin "ValueError.__init__") [] (backTo pos (starEach (e :: es) X.env)) []) _ _ _
  refine PyProof.Rows.callWith_method1 (thn (ha.run pos pins _ σ H1 _ (I1.tok _) q) fun vs2 s3 ⟨ys, H3, I3, rv, a, D, zs, ey, few, ox, at2, q3⟩ => ?_) hst hpl
  subst ey
  cases rv with
  | @cons _ v0 _ vr r0 rr =>
    obtain rfl : v0 = Value.ref a := r0
    have lim : vr.length ≤ sizeLine := by rw [← PySem.Paired.length rr, sizeLine_eq]; omega
    exact oinit_ok ox I3 at2 lim fun s4 I4 => ⟨.non, H3, I4, rfl, q3⟩
end
/-! ### def __init__(self, name=None): B.__init__(self, name); self.name = name -/
/-- what that def does -/
def spNA (K : PySem.W.Frag) : Sp := fun vs H Q _ => ∃ (a C : Addr) (y : V), vs = [.ref a, y] ∧ OexC K C ∧ PySem.W.findIn K (.ref C) "name" = some none ∧ H a = some (exo a C none) ∧ ∀ dx, H dx = none → dx ≠ a → Q .non (upd (upd H dx (exd dx [(s2 "name", y)])) a (exo a C (some dx)))
theorem naInit {P : Program} {pw : World} {K : PySem.W.Frag} {mg : Str → Option Value} {base : Heap} {x qual : Str} {st : Stmt} {dvs : List V} {f : Addr} {fd : FuncData} {k : Nat} (F : FunX K x qual st dvs f fd) (Sc : FnScope ["self", "name"] ["self", "name"] (defScope st))
    (hb : ∀ (cdv : Value) (A : Around) (outer : List Env) (s : Shared) (H : Hp) (E : XK), PSs (cxOf CX0 P pw K mg base ["self", "name"] qual (defScope st) f cdv A outer s H E).nox (defBody st) (tSeq (tDrop (tVeI K (tCons (tVar 0) (tCons (tVar 1) tNil)))) (tOst K (s2 "name") (tVar 0) (tVar 1)))) :
    FnOk P pw K mg base CX0 (k + 1) f fd ["self", "name"] (spNA K) := by
  refine fun_ok F Sc (fun vs H Q E ⟨a, C, y, ev, _⟩ => by rw [ev]; rfl) fun cdv A outer s H vs Q E hr ⟨a, C, y, ev, ox, nn, ha, post⟩ => ⟨_, hb cdv A outer s H E, ?_⟩
  subst ev
  refine ⟨.ref a, rfl, y, rfl, a, C, [y], rfl, by simp, ox, ha, y, rfl, .ref a, rfl, a, C, rfl, ox, nn, .inl ⟨ha, fun dx h1 h2 => post dx h1 h2⟩⟩
/-! ### raise C() -/
structure ExcN (K : PySem.W.Frag) (C g : Addr) : Prop where
  ox : OexC K C
  nn : PySem.W.findIn K (.ref C) "name" = some none
  ini : PySem.W.findIn K (.ref C) "__init__" = some (some (.ref g))
  fn : PySem.W.typeIn K (.ref g) = some (.type "function")
section
variable {w : Wd} {W : WX} {X : Cx}
def sRaiseF (c : Nat) (fs : List (String × D)) : SS := fun ρ S => .ex (.exc c fs) ρ S
/-- C(), C's __init__ keeping sp -/
theorem pmk_na {x : Str} {C g : Addr} {k : Nat} {fd : FuncData} {ps : List Str} {ds : List Value} {p pos : Pos} (T : ExcN X.K C g) (G : FnOk X.prog X.w X.K X.mg X.base CX0 k g fd ps (spNA X.K)) (hr : Room (k + 1) X.A) (hb : Binds X.K fd ps ds) (hd : Vals [V.non] ds) (hg : Gl X x) (hm : X.mg x = some (.ref C))
    (hdb : (x == ("__debug__" : Str)) = false) : PMk X (.Call (.Name x p) [] [] pos) (fun _ H Q => ∀ d, H d = none → Q (.ref C) (some d) (upd H d (.xd [(s2 "name", V.non)]))) := by
  intro pins s σ H Q I want
  obtain ⟨nm, q, N, bs, bm, sn, sub, ab, col, dd, k0, k1, k2, k3, k5, hC, hbm⟩ := T.ox.cls
  refine wpAny_Call_Name_kw (ld_glob I hg hm (PySem.W.callWith_K0 I.kIn T.ox.kC ?_) hdb)
  show wpAny _ _ (call (.ref C) []) _ _ _
  obtain ⟨h0, gn, dr, tk, os⟩ := s
  have room : h0.objs.size ≤ h0.objs.size + 1 := Nat.le_succ _
  have free : H (h0.objs.size + 1) = none := I.hok.fresh room
  have keep : ∀ b o, h0.get? b = some o → ((h0.push (PySem.W.kdv_tup [])).push (PySem.HandSPX.excO C h0.objs.size)).get? b = some o := fun b o e => Heap.get?_push_of_some _ (Heap.get?_push_of_some _ e)
  have here : ((h0.push (PySem.W.kdv_tup [])).push (PySem.HandSPX.excO C h0.objs.size)).get? (h0.objs.size + 1) = some (PySem.HandSPX.excO C h0.objs.size) := by heap_get
  have J : Inv X pins σ (upd H (h0.objs.size + 1) (exo (h0.objs.size + 1) C none)) ⟨(h0.push (PySem.W.kdv_tup [])).push (PySem.HandSPX.excO C h0.objs.size), gn, dr, tk, os⟩ := I.laid (t' := tk) keep room (exo_ok here)
  have said : spNA X.K [V.ref (h0.objs.size + 1), V.non] (upd H (h0.objs.size + 1) (exo (h0.objs.size + 1) C none)) (fun v H2 => v = .non ∧ ∃ d, H d = none ∧ d ≠ h0.objs.size + 1 ∧ H2 = upd (upd (upd H (h0.objs.size + 1) (exo (h0.objs.size + 1) C none)) d (exd d [(s2 "name", V.non)])) (h0.objs.size + 1) (exo (h0.objs.size + 1) C (some d))) (fun _ _ _ => False) :=
    ⟨_, C, V.non, rfl, T.ox, T.nn, upd_same, fun dx h1 h2 => ⟨rfl, dx, by rw [upd_ne h2] at h1; exact h1, h2, rfl⟩⟩
  have both : Vals (V.ref (h0.objs.size + 1) :: [V.non]) (Value.ref (h0.objs.size + 1) :: ds) := .cons rfl hd
  have many : (Value.ref (h0.objs.size + 1) :: ds).length = ps.length := both.length.symm.trans (G.len _ _ _ _ said)
  refine wpAny_call (PySem.HandSPX.call_own (rest := []) F.excBase_ValueError (fun Y => PySem.HandSPX.refsVE_contains Y bm hbm) (I.kIn _ _ hC) (PySem.W.looks_findIn I.kIn T.ini) (fun self => PySem.W.bind_fn I.kIn self T.fn) (Nat.zero_le _)
    (codeAny_mono (G.run _ X.stack _ _ ⟨[Value.ref (h0.objs.size + 1)], []⟩ (Value.ref (h0.objs.size + 1) :: ds) _ _ (fun _ _ _ => False) (hr.make C [] []) (J.env0.make C [] []) (hb _ [Value.ref (h0.objs.size + 1)] J.kIn many) both said) fun r s' hq => ?_))
  cases r with
  | error er => exact hq.elim
  | ok fl =>
    cases fl with
    | ret u =>
      obtain ⟨v, H2, os2, bare2, un2, hok2, rv, ev, d, hd1, hd2, eH⟩ := hq
      subst ev
      obtain ⟨h2, g2, dr2, t2, os'⟩ := s'
      have ea : H2 (h0.objs.size + 1) = some (exo (h0.objs.size + 1) C (some d)) := by rw [eH, upd_same]
      have ed : H2 d = some (exd d [(s2 "name", V.non)]) := by rw [eH, upd_ne hd2, upd_same]
      have eH3 : upd (del H2 (h0.objs.size + 1)) d (.xd [(s2 "name", V.non)]) = upd H d (.xd [(s2 "name", V.non)]) := by
        funext b
        by_cases hb : b = d
        · rw [hb, upd_same, upd_same]
        · rw [upd_ne hb, upd_ne hb]
          by_cases hc : b = h0.objs.size + 1
          · rw [hc, del_same, free]
          · rw [del_ne hc, eH, upd_ne hc, upd_ne hb, upd_ne hc]
      exact ⟨rv, mk_end (raises_own T.ox.exC T.ox.tyC) I room keep un2 hok2 os2 bare2 ea ed hd1 (eH3 ▸ want d hd1)⟩
    | next => exact False.elim hq
    | brk => exact False.elim hq
    | cont => exact False.elim hq
theorem st_raiseN {c k : Nat} {g : Addr} {fd : FuncData} {ps : List Str} {ds : List Value} {x : Str} {p pos pos' : Pos} (hc : X.calm = true) (tk : Takes X W) (T : ExcN X.K (w.cl c) g) (G : FnOk X.prog X.w X.K X.mg X.base CX0 k g fd ps (spNA X.K)) (hr : Room (k + 1) X.A) (hb : Binds X.K fd ps ds) (hd : Vals [V.non] ds)
    (hg : Gl X x) (hm : X.mg x = some (.ref (w.cl c))) (hdb : (x == ("__debug__" : Str)) = false) :
    PS X (.Raise (some (.Call (.Name x p) [] [] pos)) none pos') (rdS w W (sRaiseF c [("name", .non)])) :=
  PS.imp (ps_raise hc tk (pmk_na T G hr hb hd hg hm hdb)) fun D σ H ⟨g, ρ, S, rel, h⟩ d hd =>
    h (.ref (w.cl c)) (some d) σ _ ⟨g, StepE.toS (.new hd), rel.new hd, c, [("name", .non)], rfl, rfl, .inr ⟨d, _, rfl, by simp, upd_same, .cons .non .nil⟩⟩
end
end DL

set_option maxRecDepth 100000
set_option maxHeartbeats 2000000
/-! The value layer: a field of a caught exception; an instance that is called. -/
namespace DL
open PySem L2
section
variable {w : Wd} {W : WX} {X : Cx}
/-! ### e.x, e a caught exception -/
def sFldX (x : String) (okx : Nat → Bool) (f : SE) : SE := fun ρ S => (f ρ S).bind fun r S1 => match r.1 with
  | .exc c fs => if okx c = true then (match getN fs x with
    | some d => .ok (d, .sh) S1
    | none => .bad) else .bad
  | _ => .bad
theorem e_fldX {e : Expr} {f : SE} {x : String} {pos : Pos} {okx : Nat → Bool} (hc : ∀ c, okx c = true → XfC X.K (w.cl c) ∧ PySem.W.findIn X.K (.ref (w.cl c)) (s2 x) = some none) (hb : attributeBase e (s2 x) X.env (eval e X.env) = eval e X.env) (he : PE X e (rdE w W f)) :
    PE X (.Attribute e (s2 x) pos) (rdE w W (sFldX x okx f)) := by
  refine ⟨fun pins s σ H Q I ⟨g, ρ, S, rel, h⟩ => attr_of hb (thn (he.run pins s σ H _ I (bindE rel h goodE)) fun u s1 ⟨y, H1, I1, ry, r1, S1, m1, st1, rel1, res1, _, h1⟩ => ?_)⟩
  obtain ⟨d1, fl1⟩ := r1
  split at h1
  rotate_left
  · exact h1.elim
  rename_i c fs ed
  cases ed
  split at h1
  rotate_left
  · exact h1.elim
  rename_i oc
  obtain ⟨xf, nat⟩ := hc c oc
  split at h1
  rotate_left
  · exact h1.elim
  rename_i d gd
  have rp := Read.rep res1.arg.read rfl
  cases rp with
  | exc0 h0 => cases gd
  | box b _ _ => cases b
  | @excF _ a dd f1 fr gs hA hD rn =>
    obtain rfl : u = Value.ref a := ry
    obtain ⟨v, lv, rv⟩ := (rn.get (x := x)).2 d gd
    have hx : ObjOk X.prog X.w H1 s1.heap dd (.xd gs) := I1.hok dd _ hD
    obtain ⟨mA, hns, hr⟩ := hx
    obtain ⟨oD, hoD, hlD⟩ := lookIn_ns hns
    have hy : ObjOk X.prog X.w H1 s1.heap a (.ext fun h => ∃ (oe : Obj) (vs : Array Value), h.get? a = some oe ∧ Zc (.ref (w.cl c)) (some dd) oe ∧ oe.data = .fields vs) := I1.hok a _ hA
    obtain ⟨oe, vs, he2, hz2, hd2⟩ := hy.1
    obtain ⟨z, hz3, rz⟩ := RelO.some_of (v := v) (o := mA (s2 x)) (by rw [← lv]; exact hr (s2 x))
    have J : PySem.W.InstAt s1.heap a oe (w.cl c) (some oD) := ⟨he2, hz2.1, by unfold PySem.W.notCls; rw [hd2] <;> rfl, by rw [hz2.2]; exact hoD⟩
    exact HandSPX.exc_get I1.kIn J xf.ga xf.gg xf.exC (PySem.W.findObj_own xf.hdC nat rfl (by rw [hlD, hz3])) (handed_of rz) ⟨v, H1, I1.tok _, rz, h1 v H1 (.same rel1 rv)⟩
/-! ### x(..), x a name that holds an instance -/
def sCallI (np : Nat) (F : SF) (okc : Nat → Bool) (f : SE) (fs : SA) : SE := fun ρ S => (f ρ S).bind fun r S1 => match r.1 with
  | .ins c gs => if okc c = true then (fs ρ S1).bind fun rs S2 => (if rs.length + 1 = np then F ((.ins c gs, lend r.2) :: rs) S2 else .bad) else .bad
  | _ => .bad
structure CallC (K : PySem.W.Frag) (C g : Addr) : Prop where
  at_ : PySem.W.findIn K (.ref C) "__call__" = some (some (.ref g))
  fn : PySem.W.fnIn K g = true
  isf : PySem.W.isFn K (.ref g) = true
def callB (K : PySem.W.Frag) (C g : Addr) : Bool := decide (PySem.W.findIn K (.ref C) "__call__" = some (some (.ref g))) && (PySem.W.fnIn K g && PySem.W.isFn K (.ref g))
theorem callB_ok {K : PySem.W.Frag} {C g : Addr} (h : callB K C g = true) : CallC K C g := by
  obtain ⟨h1, h⟩ := and2 h
  obtain ⟨h2, h3⟩ := and2 h
  exact ⟨of_decide_eq_true h1, h2, h3⟩
/-- an instance's call: what its class's table says, after the arguments -/
theorem callWith_inst {M : Model} {A : Around} {E : Value → Shared → Prop} {s : Shared} {x C : Addr} {first : List Value} {pos : Pos} {Q : Value → Shared → Prop} {as : List (Bool × Sem Value)} (hno : as.any (·.1) = false)
    (h : wpAny M A (evalArgs (.ref x) true as []) (fun a s1 => (∃ ox od, PySem.W.InstAt s1.heap x ox C od ∧ ox.data = .plain) ∧ wpAny M A (call (.ref x) (first ++ a.pos) a.kw) Q E s1) E s) : wpAny M A (callWith pos (.ref x) first as []) Q E s := by
  unfold callWith
  refine wpAny_bind (wpAny_holding (wpAny_mono h (fun a s1 ⟨⟨ox1, od1, J, hd⟩, q⟩ => wpAny_bind (wpAny_standAt ?_)) fun _ _ z => z))
  have hk := PySem.W.kco_keeper (M := M) J hd
  have hno2 : (as.any (·.1) || ([] : List (Option Str × Sem Value)).any (·.1.isNone)) = false := by rw [hno]; rfl
  simp only [hno2]
  refine wpAny_bind (hk.here ?_)
  have last : ∀ {t : Sem Value}, wpAny M A t Q E s1 → wpAny M A (t >>= fun r => holding [r] point >>= fun _ => pure r) Q E s1 :=
    fun z => wpAny_bind (wpAny_mono z (fun r s2 hr => wpAny_bind (wpAny_holding (wpAny_point (wpAny_pure hr)))) fun _ _ z => z)
  exact last (wpAny_operateT q)
theorem e_callI {k np : Nat} {x : Str} {e : Expr} {es : List Expr} {f : SE} {fs : SA} {F : SF} {p pos : Pos} {okc : Nat → Bool} {g : Addr} {fd : FuncData} {ps : List Str} (hgu : X.A.guards = some []) (tk : Takes X W)
    (hc : ∀ c, okc c = true → CallC X.K (w.cl c) g) (G : FnY X.prog X.w X.K X.mg X.base k g fd ps (spY w np F)) (hr : Room k X.A) (hb : Binds X.K fd ps [])
    (he : starEach (e :: es) X.env = (false, eval e X.env) :: starEach es X.env) (hpl : (backTo pos (starEach es X.env)).any (·.1) = false) (ho : PE X (.Name x p) (rdE w W f)) (ha : PA X (e :: es) (rdA w W fs)) :
    PE X (.Call (.Name x p) (e :: es) [] pos) (rdE w W (sCallI np F okc f fs)) := by
  refine ⟨fun pins s σ H Q I ⟨gh, ρ, S, rel, h⟩ => wpAny_Call_Name_kw (thn (ho.run pins s σ H _ I (bindE rel h goodE)) fun u s1 ⟨y, H1, I1, ry, r1, S1, m1, st1, rel1, res1, _, h1⟩ => ?_)⟩
  obtain ⟨d1, fl1⟩ := r1
  split at h1
  rotate_left
  · exact h1.elim
  rename_i c gs ed
  cases ed
  split at h1
  rotate_left
  · exact h1.elim
  rename_i oc
  have cc := hc c oc
  obtain ⟨a, dx, qs, rfl, hi, rn⟩ := (Read.look res1.arg.read).ins
  obtain rfl : u = Value.ref a := ry
  show wpAny _ _ (callWith pos (.ref a) [] (backTo pos (starEach (e :: es) X.env)) []) _ _ _
  rw [he]
  refine callWith_inst (C := w.cl c) (by show (false || (backTo pos (starEach es X.env)).any (·.1)) = false; rw [hpl]; rfl) (PySem.Calls.evalArgs_plain ?_)
  have run := ha.run pos pins s1 σ H1 _ I1 (bindA rel1 h1 goodE)
  rw [he] at run
  refine thn run fun us s2 ⟨vs, H2, I2, rv, rs, S2, m2, st2, rel2, as, _, h2⟩ => ?_
  split at h2
  rotate_left
  · exact h2.elim
  rename_i hl
  have ar : Arg w m2 gh.Z H2 (.ins c gs, lend fl1) (.ref a) := lend_arg (st2.arg res1.arg)
  obtain ⟨a', dx', qs', ea, hi', _⟩ := (Read.look ar.read).ins
  cases ea
  obtain ⟨od, J⟩ := ins_look I2 hi'
  have all : Args w m2 gh.Z H2 ((.ins c gs, lend fl1) :: rs) (V.ref a :: vs) := .cons ar as
  have said := ent_meth (W := W) (Q := Q) (F := F) (np := np) rel2 all (by simpa using hl) h2
  have both : Vals (V.ref a :: vs ++ []) (Value.ref a :: us ++ []) := (show Vals (V.ref a :: vs) (Value.ref a :: us) from .cons rfl rv).append .nil
  have many : (Value.ref a :: us).length = ps.length := by
    have q := (both.length.symm.trans (G.len _ _ _ _ (by simpa using said)))
    simpa using q
  refine ⟨⟨_, od, J, rfl⟩, wpAny_call (PySem.W.kco_code I2.kIn J rfl cc.at_ cc.isf cc.fn (codeAny_mono (G.run _ _ s2 H2 ⟨Value.ref a :: us, []⟩ (Value.ref a :: us) (V.ref a :: vs) Q _ hgu hr I2.env0 (by simpa using hb s2 (Value.ref a :: us) I2.kIn (by simpa using many)) (by simpa using both) said) fun r s' hq => ?_))⟩
  cases r with
  | error e => exact tk e s' (XE.of_call I2 (fun _ _ _ z => z) hq)
  | ok fl => cases fl <;> first | exact I2.after hq | exact False.elim hq
end
end DL

set_option maxRecDepth 100000
set_option maxHeartbeats 4000000
/-! set(list of texts), sorted of it, where all the texts are one. -/
namespace L2
open PySem PySem.Spec PyProof.Rows PySem.Froz
/-- a set of the texts l, that can be walked -/
def TxS (P : Program) (w : World) (h : Heap) (a : Addr) (l : List Str) : Prop := ∃ es ep t, h.get? a = some (sObj "set" (es, ep, t)) ∧ TxOk P w (es, ep, t) l ∧ Ris t.place.toList ∧ (w.params.followText "set-order" = true ∨ t.led = true)
theorem TxS.at {P : Program} {w : World} {h h' : Heap} {a : Addr} {l : List Str} (R : TxS P w h a l) (k : ∀ o, h.get? a = some o → h'.get? a = some o) : TxS P w h' a l := by
  obtain ⟨es, ep, t, e, r⟩ := R
  exact ⟨es, ep, t, k _ e, r⟩
theorem txs_new {P : Program} {w : World} {h : Heap} {a : Addr} (e : h.get? a = some (nS w)) : TxS P w h a [] :=
  ⟨#[], 0, _, e, .nil (by rfl), List.Pairwise.nil, by
    show _ ∨ (!w.params.followText "set-order") = true
    cases w.params.followText "set-order" <;> simp⟩
theorem tail_ris {ep : Nat} {es : Array (Int × Value)} {t : SetTable} {b : Bool} (r : Ris t.place.toList) : Ris (tailTx ep es t b).2.2.place.toList := by
  unfold tailTx
  split
  · exact relayAll_ris _ _ _
  · exact r
theorem tail_led {ep : Nat} {es : Array (Int × Value)} {t : SetTable} {b : Bool} : (tailTx ep es t b).2.2.led = t.led := by
  unfold tailTx
  split
  · exact relayAll_led _ _ _
  · rfl
theorem addTx_ris {h : Int} {v : Value} {es : Array (Int × Value)} {ep : Nat} {t : SetTable} (r : Ris t.place.toList) : Ris (addTx h v (es, ep, t)).2.2.place.toList := by
  refine tail_ris ?_
  have q := layNew_ris t es h v r
  show Ris (if (layNew t es h v).2.1.plain = true then { (layNew t es h v).2.1 with plain := false } else (layNew t es h v).2.1).place.toList
  by_cases c : (layNew t es h v).2.1.plain = true
  · rw [if_pos c]; exact q
  · rw [if_neg c]; exact q
theorem addTx_led {h : Int} {v : Value} {es : Array (Int × Value)} {ep : Nat} {t : SetTable} : (addTx h v (es, ep, t)).2.2.led = t.led := by
  refine tail_led.trans ?_
  have q := layNew_led t es h v
  show (if (layNew t es h v).2.1.plain = true then { (layNew t es h v).2.1 with plain := false } else (layNew t es h v).2.1).led = _
  by_cases c : (layNew t es h v).2.1.plain = true
  · rw [if_pos c]; exact q
  · rw [if_neg c]; exact q
section
variable {P : Program} {w : World} {A : Around} {E : Value → Shared → Prop} {s : Shared}
/-- a text put in: a new one, or one that is there -/
theorem txs_add {a : Addr} {l : List Str} {x : Str} {u : Tok} {Q : Bool → Shared → Prop} (R : TxS P w s.heap a l) (few : l.length + 1 < scanBound)
    (fin : ∀ b h', (∀ c, c ≠ a → h'.get? c = s.heap.get? c) → TxS P w h' a (if x ∈ l then l else x :: l) → Q b { s with heap := h' }) : wpAny (model P w) A (setAddHashed a (.str x u) (hashStr w x)) Q E s := by
  obtain ⟨es, ep, t, ho, tx, ri, ld⟩ := R
  by_cases here : x ∈ l
  · have hsize : es.size = l.length := tx.sz
    have lim : l.length < scanBound := Nat.lt_of_succ_lt few
    have hd : (sObj "set" (es, ep, t)).data = .set es ep t := rfl
    have hkey : (strKind P w).is x (.str x u) = true := is_str x u
    have hsc : (Value.str x u).scannable = true := rfl
    unfold setAddHashed setAddHashedIn
    refine wpAny_holding (wpAny_bind (wpAny_setState_of ho hd tx.fit ?_))
    dsimp only
    rw [byScan_of hsc (show es.size < scanBound by rw [hsize]; exact lim) tx.el]
    simp only [↓reduceIte]
    unfold setAddByScan
    refine wpAny_bind (wpAny_bind (wpAny_rule (wpAny_bind (wpAny_setScan_of (knd := strKind P w) hkey ho hd tx.fit tx.el ?_))))
    cases hfi : List.findIdx? (fun e => (strKind P w).is x e.2) es.toList with
    | some j =>
      dsimp only
      refine wpAny_pure (wpAny_pure (fin false s.heap (fun _ _ => rfl) ?_))
      rw [if_pos here]
      exact ⟨es, ep, t, ho, tx, ri, ld⟩
    | none =>
      obtain ⟨e, he, q⟩ := (tx.mem x).mp here
      have c := List.findIdx?_eq_none_iff.mp hfi e he
      rw [q] at c
      cases c
  · refine add_x ho tx here few (fin true _ (fun c hc => ?_) ?_)
    · exact Heap.get?_update_other _ _ (Ne.symm hc)
    · rw [if_neg here]
      exact ⟨_, _, _, get_upd _ ho rfl, add_ok u tx, addTx_ris ri, ld.imp id fun z => addTx_led.trans z⟩
/-- the walk of a row of equal texts -/
theorem txs_fill {I : Addr} {fp wr : List Addr} {G : Array GenState → Array GenState → Prop} {n : Nat} {Pv : Nat → Value → Prop} {St : Nat → Shared → Prop} {R : Result → Shared → Prop} {x : Str}
    (W : WalksS P w A.in1 I fp wr G n Pv St) (S : Addr) (hSf : S ∉ fp) (hv : ∀ i v, Pv i v → ∃ u, v = .str x u) :
    ∀ (k i : Nat) (s : Shared), n - i = k → i ≤ n → St i s → TxS P w s.heap S (if i = 0 then [] else [x]) →
      (∀ s', Moved (S :: wr) G s s' → TxS P w s'.heap S (if n = 0 then [] else [x]) → R (.ok (.ret .none)) s') →
      codeAny (model P w) A (.builtin "set.update.loop" ⟨[.ref S, .ref I], []⟩) R s := by
  have nwr : S ∉ wr := fun h => hSf (W.sub _ h)
  have more : ∀ b ∈ wr, b ∈ S :: wr := fun b hb => List.mem_cons_of_mem _ hb
  intro k
  induction k with
  | zero =>
    intro i s hk hi st tx fin
    obtain rfl : i = n := by omega
    refine codeAny_builtin F.entry_set_update_loop ?_
    rw [Around.under_plainId F.plain_set_update_loop _]
    show wpAny _ A.in1 (pyNext (.ref I) >>= _) _ _ s
    refine wpAny_bind (W.done s _ _ st fun s1 mv => ?_)
    exact wpAny_pure (fin s1 (mv.mono more) (tx.at fun o e => mv.heap S o nwr e))
  | succ k ih =>
    intro i s hk hi st tx fin
    have lt : i < n := by omega
    refine codeAny_builtin F.entry_set_update_loop ?_
    rw [Around.under_plainId F.plain_set_update_loop _]
    show wpAny _ A.in1 (pyNext (.ref I) >>= _) _ _ s
    refine wpAny_bind (W.item i s _ _ lt st fun v s1 pv st1 mv => ?_)
    obtain ⟨u, rfl⟩ := hv i v pv
    have tx1 : TxS P w s1.heap S (if i = 0 then [] else [x]) := tx.at fun o e => mv.heap S o nwr e
    show wpAny _ A.in1 (holding [Value.str x u] (setAdd S (.str x u)) >>= _) _ _ s1
    refine wpAny_bind (wpAny_holding ?_)
    unfold setAdd
    refine wpAny_holding (wpAny_bind ((strKind P w).pyHash (k := x) (is_str x u) ?_))
    refine txs_add (s := { s1 with toks := s1.toks + 1 }) tx1 (by split <;> (simp only [List.length_nil, List.length_cons]; unfold scanBound; omega)) fun b h1 oth tx2 => ?_
    have tx3 : TxS P w h1 S (if i + 1 = 0 then [] else [x]) := by
      rw [if_neg (by omega)]
      by_cases z : i = 0
      · rw [if_pos z] at tx2; exact tx2
      · rw [if_neg z] at tx2; simpa using tx2
    refine wpAny_pure ⟨plainId_quiet F.plain_set_update_loop _, ih (i + 1) _ (by omega) lt (W.frame _ s1 _ _ st1 (Nat.le_succ _) fun b hb o e => ?_) tx3 fun s3 mv3 tx4 => ?_⟩
    · rw [oth b (fun z : b = S => hSf (by rw [← z]; exact hb))]; exact e
    · refine fin s3 (Moved.trans W.gtrans ((mv.mono more).then_heap (Nat.le_succ _) fun b o hb e => ?_) mv3) tx4
      rw [oth b (fun z : b = S => hb (by rw [z]; exact List.mem_cons_self))]; exact e
/-- set(row), the row's texts all one -/
theorem txs_init {S l : Addr} {items : Array Value} {x : Str} (free : A.handled = none) (here : s.heap.get? S = some (nS w)) (row : s.heap.IsList l items) (all : ∀ v ∈ items.toList, ∃ u, v = .str x u) :
    codeAny (model P w) A (.call (.builtin "set.__init__") ⟨[.ref S, .ref l], []⟩) (wants (fun r z => r = .none ∧ ∃ (g : Heap) (tk : Nat), z = { s with heap := g, toks := tk } ∧ TxS P w g S (if items.size = 0 then [] else [x]) ∧ ∀ b o, b ≠ S → s.heap.get? b = some o → g.get? b = some o) E) s := by
  have ty : s.TypeIs (.ref S) "set" := ⟨_, here, rfl⟩
  refine codeAny_call_builtin F.called_set.init.plain F.entry_set_init (check_set_init_1 ty ?_)
  obtain ⟨ol, at_, cls, n, dat⟩ := row
  obtain ⟨oc, od, oa, os⟩ := ol
  simp only at cls dat
  subst cls dat
  have row : s.heap.IsList l items := ⟨_, at_, rfl, n, rfl⟩
  have u1 := F.sub_list_set
  have u2 := F.sub_list_frozenset
  have u3 : (Value.type "list" == Value.type "dict") = false := by decide
  unfold Builtin.«set.__init__» noKeywords Builtin.Frozenset.updateFrom
  generalize walk : pyIter = W
  wp_walk
  subst walk
  have lS : l < s.heap.objs.size := Heap.lt_size at_
  have sS : S < s.heap.objs.size := Heap.lt_size here
  obtain ⟨o, eo⟩ : ∃ o : Obj, o = { cls := .type "list_iterator", data := .fields #[.ref l, .int 0 0] } := ⟨_, rfl⟩
  have on : ∀ b u, s.heap.get? b = some u → (s.heap.push o).get? b = some u := fun b u e => Heap.get?_push_of_some _ e
  refine wpAny_pyIter_list row (wpAny_bind (wpAny_runValue ?_))
  rw [← eo]
  have it : (s.heap.push o).IsListIter s.heap.objs.size l 0 := ⟨o, Heap.get?_push_size _ (by rw [eo]; rfl), by rw [eo], by rw [eo]; rfl⟩
  refine txs_fill (x := x) (St := fun i z => z.heap.IsListIter s.heap.objs.size l i ∧ z.heap.IsList l items) ((Walks.list (by simp [free]) s.heap.objs.size l (Nat.ne_of_lt lS) items).toS) S (by
      simp only [List.mem_cons, List.not_mem_nil, or_false, not_or]
      exact ⟨Nat.ne_of_lt sS, fun z => by
        have q := here
        rw [z, at_] at q
        exact absurd (Value.type.inj (congrArg Obj.cls (Option.some.inj q))) (by decide)⟩) (fun i v e => all v (by
        have q := (Array.getElem?_toList (xs := items) (i := i)).trans e
        exact List.mem_of_getElem? q)) items.size 0 _ (by omega) (Nat.zero_le _) ⟨it, row.at fun u e => on _ u e⟩ (txs_new (on _ _ here)) fun z mv R => ?_
  obtain ⟨g, gn, dr, tk, so⟩ := z
  have q1 : gn = s.gens := mv.gens
  have q2 : dr = s.drawn := mv.drawn
  have q3 : so = s.os := mv.os
  subst q1 q2 q3
  refine wpAny_pure (show wpAny _ _ (ret Value.none) _ _ _ from wpAny_pure ⟨rfl, g, tk, rfl, R, fun b u ne e => mv.heap b u ?_ (on b u e)⟩)
  simp only [List.mem_cons, List.not_mem_nil, or_false, not_or]
  exact ⟨ne, Nat.ne_of_lt (Heap.lt_size e)⟩
theorem txs_of_list {l : Addr} {items : Array Value} {x : Str} {Q : Value → Shared → Prop} (free : A.handled = none) (row : s.heap.IsList l items) (all : ∀ v ∈ items.toList, ∃ u, v = .str x u)
    (fin : ∀ (g : Heap) (tk : Nat), TxS P w g s.heap.objs.size (if items.size = 0 then [] else [x]) → (∀ b o, s.heap.get? b = some o → g.get? b = some o) → Q (.ref s.heap.objs.size) { s with heap := g, toks := tk }) :
    wpAny (model P w) A (call (.type "set") [.ref l]) Q E s := by
  have m0 := F.called_set
  obtain ⟨c0, t0, p1⟩ := m0.mro
  have p2 := m0.made
  have p3 := m0.sub
  have p4 := m0.notType
  have p5 := m0.canCreate
  have p6 := F.typeCall_set_1 (.ref l)
  refine wpAny_call (codeAny_of_tree (show wpAny _ _ (callAny (.type "set") _) _ _ _ from wpAny_pure ⟨Code.quiet_builtin _ (by decide +kernel), codeAny_builtin F.entry_type_call ?_⟩))
  rw [Around.under_plain (weight_type_call_type "set" [.ref l] []) rfl]
  repeat (any_goals (first | wp_step | assumption))
  refine codeAny_mono (code_set_led1 (.ref l) (E := E) (Q₁ := fun v z => v = .ref s.heap.objs.size ∧ z = { s with heap := s.heap.push (nS w) }) ⟨rfl, rfl⟩) fun r z hr => ?_
  match r, hr with
  | .error e, hr => exact hr
  | .ok (.ret v), hr =>
    obtain ⟨rfl, rfl⟩ := hr
    have at_ : (s.heap.push (nS w)).get? s.heap.objs.size = some (nS w) := Heap.get?_push_size _ rfl
    have ty : Shared.TypeIs { s with heap := s.heap.push (nS w) } (.ref s.heap.objs.size) "set" := ⟨_, at_, rfl⟩
    have i1 := m0.init.lookup
    have i2 := m0.init.bind (.ref s.heap.objs.size)
    repeat (any_goals (first | wp_step | assumption))
    refine codeAny_mono (txs_init (P := P) (E := E) (s := { s with heap := s.heap.push (nS w) }) (x := x) (by simp [free]) at_ (row.push _) all) fun r z hz => ?_
    match r, hz with
    | .error e, hz => exact hz
    | .ok (.ret v), hz =>
      obtain ⟨rfl, g, tk, rfl, R, old⟩ := hz
      repeat (any_goals (first | wp_step | assumption))
      exact fin g tk R fun b u e => old b u (Nat.ne_of_lt (Heap.lt_size e)) (Heap.get?_push_of_some _ e)
/-- sorted of it: at most one text -/
theorem txs_sorted {a : Addr} {l : List Str} {Q : Value → Shared → Prop} (R : TxS P w s.heap a l) (free : A.handled = none) (one : l.length ≤ 1)
    (fin : ∀ s' p (out : Array Value) (c : Nat), (∀ b o, s.heap.get? b = some o → s'.heap.get? b = some o) → s'.gens = s.gens → s'.os = s.os → s.heap.objs.size ≤ p →
      s'.heap.get? p = some (seqObj "list" out c) → StrsAre out.toList l → Q (.ref p) s') :
    wpAny (model P w) A (call (.builtin "sorted") [.ref a]) Q E s := by
  obtain ⟨es, ep, t, ho, tx, ri, ld⟩ := R
  have hsize : es.size = l.length := tx.sz
  refine Calls.call_function_entry kind_sorted plain_sorted entry_sorted (args_sorted1 _) ?_
  unfold Builtin.«sorted»
  refine wpAny_bind (m := checkCount "sorted" 1 1 _) (wpAny_pure ?_)
  refine wpAny_bind (collect_set (A := A.in1) free ⟨_, ho, rfl, rfl⟩ tx.fit (by rw [hsize]; unfold scanBound; omega) ri ld fun s1 vs old big g1 o1 pm => ?_)
  have hvl : vs.length = l.length := by rw [pm.length_eq, List.length_map, Array.length_toList]; exact hsize
  have stx : StrsAre vs l := by
    match l, one, hvl, tx with
    | [], _, hvl, _ =>
      rw [List.length_eq_zero_iff.mp hvl]
      exact .nil
    | [x], _, hvl, tx =>
      obtain ⟨v, rfl⟩ := List.length_eq_one_iff.mp hvl
      obtain ⟨e, he, q⟩ := (tx.mem x).mp (List.mem_singleton.mpr rfl)
      have mv : e.2 ∈ [v] := pm.mem_iff.mpr (List.mem_map.mpr ⟨e, he, rfl⟩)
      rw [List.mem_singleton.mp mv] at q
      cases v with
      | str y u =>
        have z : y = x := by exact (PySem.strKind P w).inj (.str y u) y x (is_str y u) q
        subst z
        exact .cons _ u .nil
      | _ => cases q
    | _ :: _ :: _, one, _, _ => simp at one
  refine wpAny_bind (wpAny_newList ?_ (by rw [hvl, sizeLine_eq]; omega))
  have hoL : (s1.heap.push (seqObj "list" vs.toArray 0)).get? s1.heap.objs.size = some (seqObj "list" vs.toArray 0) := Heap.get?_push_size _ rfl
  refine wpAny_bind (wpAny_holding (wpAny_call_entry slot_list_sort ⟨_, hoL, rfl⟩ entry_list_sort (list_sort_treeK strKind_oneLt hoL stx.keysOf (fun v1 v2 rest e => keyKind_strs (by rw [← e]; exact stx)) (by rw [hvl]; omega) fun st' hp hs => ⟨_, rfl, ?_⟩) (args_list_sort _)))
  obtain ⟨ss', h1, h2, h3⟩ := sorted_out_str stx hp hs
  have e2 : ss' = l := by
    match l, one, h2 with
    | [], _, h2 => exact List.Perm.eq_nil h2
    | [x], _, h2 => exact List.Perm.eq_singleton h2
    | _ :: _ :: _, one, _ => simp at one
  subst e2
  obtain ⟨c, hc⟩ := sortedHeap_at (vs := vs) (out := (PyProof.Rows.arrOf st').map (·.2)) hoL
  refine wpAny_pure ⟨_, rfl, fin _ s1.heap.objs.size _ c (fun b u e => ?_) g1 o1 big hc h1⟩
  have q := old b u e
  have hlt := Heap.lt_size q
  show (sortedHeap (s1.heap.push (seqObj "list" vs.toArray 0)) s1.heap.objs.size vs ((PyProof.Rows.arrOf st').map (·.2))).get? b = some u
  rw [sortedHeap_old (Nat.ne_of_lt hlt) (by rw [size_push']; exact Nat.lt_succ_of_lt hlt)]
  exact Heap.get?_push_of_some _ q
end
end L2

set_option maxRecDepth 100000
set_option maxHeartbeats 2000000
/-! The value layer: sorted(set(row of texts)), the texts all one. -/
namespace L2
open PySem PySem.Spec PyProof.Rows
def TxO (P : Program) (w : World) (a : Addr) (l : List Str) : HO := .ext fun h => TxS P w h a l
theorem txO_new {P : Program} {w : World} {H : Hp} {h : Heap} {a : Addr} {l : List Str} (R : TxS P w h a l) : ObjOk P w H h a (TxO P w a l) := by
  obtain ⟨es, ep, t, ho, _⟩ := id R
  exact ⟨R, ⟨_, ho⟩, fun h1 h2 p k => TxS.at p k⟩
def rSet1 (K : PySem.W.Frag) (P : Program) (w : World) : List V → Hp → VK → Prop := fun vs H Q => ∃ (a : Addr) (n : Nat) (x : Str), vs = [V.ref a] ∧ SqL K H a (List.replicate n (V.str x)) ∧ ∀ p, H p = none → Q (.ref p) (upd H p (TxO P w p (if n = 0 then [] else [x])))
def rSorted1 (P : Program) (w : World) : List V → Hp → VK → Prop := fun vs H Q => ∃ (a : Addr) (l : List Str), vs = [V.ref a] ∧ H a = some (TxO P w a l) ∧ l.length ≤ 1 ∧ ∀ p, H p = none → Q (.ref p) (upd H p (.lst (l.map V.str)))
theorem vals_one {x : Str} : ∀ {n : Nat} {us : List Value}, Vals (List.replicate n (V.str x)) us → us.length = n ∧ ∀ v ∈ us, ∃ u, v = .str x u
  | 0, us, h => by
    cases h
    exact ⟨rfl, fun v m => by cases m⟩
  | n + 1, us, h => by
    rw [List.replicate_succ] at h
    cases h with
    | cons r rr =>
      obtain ⟨u, rfl⟩ := r
      obtain ⟨h1, h2⟩ := vals_one rr
      exact ⟨by simp [h1], fun v m => by
        rcases List.mem_cons.mp m with q | q
        · exact ⟨u, q⟩
        · exact h2 v q⟩
theorem vals_of_stx : ∀ {us : List Value} {ns : List Str}, StrsAre us ns → Vals (ns.map V.str) us
  | _, _, .nil => .nil
  | _, _, .cons n t h => .cons ⟨t, rfl⟩ (vals_of_stx h)
section
variable {X : Cx}
theorem call_set1 (hc : X.calm = true) : CallR X (.type "set") (rSet1 X.K X.prog X.w) := by
  intro pins s σ H vs us Q I r h
  obtain ⟨a, n, x, rfl, hs, fin⟩ := h
  obtain ⟨its, rv, pl, _⟩ := I.list hs
  obtain ⟨u, rfl, ru⟩ := vals1 r
  cases ru
  obtain ⟨hn, hall⟩ := vals_one rv
  refine txs_of_list (x := x) (I.ok.hd hc) pl.isList (by simpa using hall) fun g tk R old => ?_
  have e : its.toArray.size = n := by simpa using hn
  rw [e] at R
  exact ⟨.ref s.heap.objs.size, _, I.laid (t' := tk) old (Nat.le_refl _) (txO_new R), rfl, fin _ (I.hok.fresh (Nat.le_refl _))⟩
theorem cr_sorted1 (hc : X.calm = true) : CallR X (.builtin "sorted") (rSorted1 X.prog X.w) := by
  intro pins s σ H vs us Q I r h
  obtain ⟨a, l, rfl, ha, one, q⟩ := h
  have R : TxS X.prog X.w s.heap a l := (I.hok a _ ha).1
  rw [Vals.ref1 r]
  refine txs_sorted R (I.ok.hd hc) one fun s' p out c k g o hp hg hi => ?_
  have hlen : (l.map V.str).length ≤ sizeLine := by rw [List.length_map, sizeLine_eq]; omega
  have hn : H p = none := I.hok.fresh hp
  have J : Inv X pins σ (upd H p (.lst (l.map V.str))) { s with heap := s'.heap, gens := s'.gens, drawn := s'.drawn, toks := s'.toks } :=
    I.call (ch := []) (Un.laid k hp hn) (I.hok.laid k hp ⟨hlen, out.toList, c, vals_of_stx hi, hg⟩) (by rw [g]; exact I.bare) (fun _ z => nomatch z)
  have e : s' = { s with heap := s'.heap, gens := s'.gens, drawn := s'.drawn, toks := s'.toks } := by
    cases s'; cases s; cases o; rfl
  rw [e]
  exact ⟨.ref p, _, J, rfl, q p hn⟩
end
end L2
namespace DL
open PySem L2
section
variable {X : Cx} {w : Wd} {W : WX}
def oSortSet1 (a : RV) (S : Store) : Option RV := ((lstOf (view S a.1)).bind strsD).bind fun xs => match xs with
  | [] => some (.lst [], .own)
  | x :: r => if r.all (· == x) = true then some (.lst [.str x], .own) else none
def rSortSet1 (K : PySem.W.Frag) (P : Program) (wd : World) : List V → Hp → VK → Prop := fun xs H Q => rSet1 K P wd xs H fun v H1 => rSorted1 P wd [v] H1 Q
theorem ok_sortSet1 (hK : X.K = w.K) : OkOp1 w (fun x H Q => rSortSet1 X.K X.prog X.w [x] H Q) oSortSet1 := by
  intro g ρ S σ H a x q Q rel ha e k
  unfold oSortSet1 at e
  obtain ⟨xs, hn, e⟩ := Option.bind_eq_some_iff.mp e
  obtain ⟨ds, e1, e2⟩ := Option.bind_eq_some_iff.mp hn
  obtain ⟨p, vs, rfl, hs, r⟩ := (look_view rel ha).lists (lstOf_eq e1)
  rw [r.strsD e2] at hs
  cases xs with
  | nil =>
    cases e
    exact ⟨p, 0, s2 "", rfl, hK ▸ hs, fun t ht => ⟨t, _, rfl, upd_same, by simp, fun l hl => k _ _ (ROk.trans (.new ht) (.lst (rel.new ht) .nil hl))⟩⟩
  | cons y ys =>
    dsimp only at e
    split at e
    rotate_left
    · cases e
    rename_i al
    cases e
    have er : ((y :: ys).map s2).map V.str = List.replicate (ys.length + 1) (V.str (s2 y)) := by
      refine List.eq_replicate_iff.mpr ⟨by simp, fun v m => ?_⟩
      simp only [List.map_map, List.mem_map, Function.comp_apply] at m
      obtain ⟨z, mz, rfl⟩ := m
      rcases List.mem_cons.mp mz with q | q
      · rw [q]
      · rw [eq_of_beq (List.all_eq_true.mp al z q)]
    rw [er] at hs
    exact ⟨p, ys.length + 1, s2 y, rfl, hK ▸ hs, fun t ht => ⟨t, _, rfl, upd_same, by simp, fun l hl => k _ _ (ROk.trans (.new ht) (.lst (ds := [.str y]) (rel.new ht) (.cons (.str y) .nil) hl))⟩⟩
theorem e_sortSet1 {x y : Str} {e : Expr} {f : SE} {p q q2 pos : Pos} (hK : X.K = w.K) (hc : X.calm = true) (b : BN X x (.builtin "sorted")) (b2 : BN X y (.type "set")) (c : C1 X (.Call (.Name y q) [e] [] q2) pos) (c2 : C1 X e q2) (h : PE X e (rdE w W f)) :
    PE X (.Call (.Name x p) [.Call (.Name y q) [e] [] q2] [] pos) (rdE w W (sB1 oSortSet1 f)) := by
  refine PE.imp (pe_callB (cr_sorted1 hc) b.gl b.mg b.bt (pa_cons (pe_callTy (call_set1 hc) b2.gl b2.mg b2.bt (a_1 c2.s h) b2.n1 b2.n2 c2.s c2.p) pa_nil c.s) b.n1 b.n2 c.s c.p) fun σ H Q hq => ?_
  exact rd_opN (r := rSortSet1 X.K X.prog X.w) (ok_on1 (ok_sortSet1 hK)) hq
end
end DL

set_option maxRecDepth 100000
set_option maxHeartbeats 2000000
/-! What is asked of the top: exceptions with an own __init__, their fields; the raise by a truth. -/
namespace DL
open PySem L2
def oexClsB (K : PySem.W.Frag) (C : Addr) : Bool := match K.lookup C with
  | some ⟨.type "type", _, .cls cd, sl⟩ => (match cd.mro, sl.toList with
    | .ref D :: tl, [_, _, _, _, some (.builtin nw), _] => decide (D = C) && (decide (nw = "ValueError.__new__") && (!cd.hasDel && (cd.hasDict && PySem.HandSPX.refsVE tl)))
    | _, _ => false)
  | _ => false
theorem oexClsB_ok {K : PySem.W.Frag} {C : Addr} (h : oexClsB K C = true) :
    ∃ nm q N bs bm sn sub ab col dd k0 k1 k2 k3 k5, K.lookup C = some (excClassObj nm q C N bs bm true sn sub ab col dd k0 k1 k2 k3 k5 "ValueError.__new__") ∧ PySem.HandSPX.refsVE bm = true := by
  unfold oexClsB at h
  split at h
  rotate_left
  · cases h
  rename_i dd cd sl look
  split at h
  rotate_left
  · cases h
  rename_i D tl k0 k1 k2 k3 nw k5 em es
  obtain ⟨h1, h⟩ := and2 h
  obtain ⟨h2, h⟩ := and2 h
  obtain ⟨h3, h⟩ := and2 h
  obtain ⟨h4, h5⟩ := and2 h
  obtain rfl := of_decide_eq_true h1
  obtain rfl := of_decide_eq_true h2
  obtain ⟨nm, bs, mro, ns, qn, hd, sn, sub, ab, col, del⟩ := cd
  dsimp only at em h3 h4
  obtain ⟨sll⟩ := sl
  dsimp only at es
  subst em es h4
  obtain rfl : del = false := by cases del <;> simp_all
  exact ⟨nm, qn, ns, bs, tl, sn, sub, ab, col, dd, k0, k1, k2, k3, k5, look, h5⟩
def excNB (K : PySem.W.Frag) (C g : Addr) : Bool := oexClsB K C && (decide (PySem.W.findIn K (.ref C) "__setattr__" = some (some (.builtin "object.__setattr__"))) && (decide (PySem.W.subIn K (.ref C) (.type "BaseException") = some true) && (decide (PySem.W.typeIn K (.ref C) = some (.type "type")) &&
  (PySem.W.keepIn K (.ref C) && (decide (PySem.W.findIn K (.ref C) "name" = some none) && (decide (PySem.W.findIn K (.ref C) "__init__" = some (some (.ref g))) && decide (PySem.W.typeIn K (.ref g) = some (.type "function"))))))))
theorem excNB_ok {K : PySem.W.Frag} {C g : Addr} (h : excNB K C g = true) : ExcN K C g := by
  obtain ⟨h1, h⟩ := and2 h
  obtain ⟨h2, h⟩ := and2 h
  obtain ⟨h3, h⟩ := and2 h
  obtain ⟨h4, h⟩ := and2 h
  obtain ⟨h5, h⟩ := and2 h
  obtain ⟨h6, h⟩ := and2 h
  obtain ⟨h7, h8⟩ := and2 h
  exact ⟨⟨oexClsB_ok h1, of_decide_eq_true h2, of_decide_eq_true h3, of_decide_eq_true h4, h5⟩, of_decide_eq_true h6, of_decide_eq_true h7, of_decide_eq_true h8⟩
def xfnB (K : PySem.W.Frag) (C : Addr) (x : String) : Bool := xfB K C && decide (PySem.W.findIn K (.ref C) (s2 x) = some none)
theorem xfnB_ok {K : PySem.W.Frag} {C : Addr} {x : String} (h : xfnB K C x = true) : XfC K C ∧ PySem.W.findIn K (.ref C) (s2 x) = some none := by
  obtain ⟨h1, h2⟩ := and2 h
  exact ⟨xfB_ok h1, of_decide_eq_true h2⟩
section
variable {w : Wd} {W : WX} {X : Cx}
def sRaiseN (b : Bool) (c : Nat) (fs : List (String × D)) : SS := fun ρ S => if b = true then .ex (.exc c fs) ρ S else .bad
theorem st_raiseB {b : Bool} {c k : Nat} {g : Addr} {fd : FuncData} {ps : List Str} {ds : List Value} {x : Str} {p pos pos' : Pos} (hc : X.calm = true) (tk : Takes X W) (T : ExcN X.K (w.cl c) g) (G : b = true → FnOk X.prog X.w X.K X.mg X.base CX0 k g fd ps (spNA X.K)) (hr : Room (k + 1) X.A) (hb : Binds X.K fd ps ds) (hd : Vals [V.non] ds)
    (hg : Gl X x) (hm : X.mg x = some (.ref (w.cl c))) (hdb : (x == ("__debug__" : Str)) = false) :
    PS X (.Raise (some (.Call (.Name x p) [] [] pos)) none pos') (rdS w W (sRaiseN b c [("name", .non)])) := by
  cases b with
  | true => exact PS.imp (st_raiseN hc tk T (G rfl) hr hb hd hg hm hdb) fun D σ H h => h
  | false => exact ⟨fun pins s σ H D I ⟨g, ρ, S, rel, h⟩ => h.elim⟩
end
end DL

set_option maxRecDepth 100000
set_option maxHeartbeats 2000000
/-! The value layer: isinstance of a caught exception, whether or not it has fields. -/
namespace PySem.W
open PySem PySem.Calls PyProof.Rows
section
variable {prog : Program} {w : World} {A : Around} {E : Value → Shared → Prop} {s : Shared} {K : Frag} {x D : Addr} {ox oz : Obj}
/-- x.__class__, x an exception that has its dict -/
theorem cls_of_exc {Q : Option Value → Shared → Prop} (ec : L2.ExcC K D) (X : K.In s.heap) (I : InstAt s.heap x ox D (some oz)) (fin : Q (some (.ref D)) { s with toks := s.toks + 1 }) : wpAny (model prog w) A (getAttr? (.ref x) "__class__") Q E s := by
  have hcl : (clsIn K D).isSome = true := by
    obtain ⟨cd, hc, _⟩ := any_some ec.hd
    rw [hc]; rfl
  have found : findObj K D (some oz) "__class__" = some (.bind (.builtin "getset_descriptor.__get__") (.builtin "object.__class__")) := findObj_data hcl ec.ha ec.hn ec.ht
  obtain ⟨h0, gs, dr, tk, os⟩ := s
  have lt := I.type (M := model prog w)
  have l1 := looks_findIn (M := model prog w) X ec.hg
  have l2 := looks_findIn (M := model prog w) X ec.hk
  have l3 := looks_find (M := model prog w) X I found
  have isEx : Looks (model prog w) h0 (isInstance (.ref x) (.type "BaseException")) true := lt.andThen (looks_subIn X ec.hs)
  have n1 : (Value.builtin "BaseException.__getattribute__" == Value.builtin "object.__getattribute__") = false := by decide +kernel
  have n2 : (onTheHeap (Value.ref D) && Value.builtin "BaseException.__getattribute__" == Value.builtin "object.__getattribute__") = false := by rw [n1]; rfl
  have n3 : (false && onTheHeap (Value.builtin "BaseException.__getattribute__")) = false := rfl
  unfold getAttr? getAttrBy? getAttrBy
  refine wpAny_bind (wpAny_mkText (wpAny_bind (wpAny_attempt (wpAny_holding (wpAny_bind (lt.at (wpAny_bind (l1.at ?_))))))))
  show wpAny _ _ (if (onTheHeap (Value.ref D) && Value.builtin "BaseException.__getattribute__" == Value.builtin "object.__getattribute__") = true then _ else _) _ _ _
  rw [n2, if_neg Bool.false_ne_true]
  unfold getAttrByItsOwn hookBefore
  refine wpAny_bind ?_
  rw [if_pos (show onTheHeap (Value.ref D) = true from rfl)]
  refine l2.at (wpAny_bind (wpAny_attempt (wpAny_holding ?_)))
  unfold callGetattribute
  rw [n3, if_neg Bool.false_ne_true]
  unfold boundAndCalled
  rw [PySem.F.excAttr_ValueError.ga.bind (.ref x)]
  refine wpAny_bind (wpAny_pure ?_)
  show wpAny _ _ (call (.builtin "BaseException.__getattribute__") [.ref x, .str "__class__" tk]) _ _ _
  refine wpAny_call (codeAny_call_builtin PySem.F.excAttr_ValueError.ga.plain PySem.F.entry_bexc_ga (@check_slot (model prog w) _ _ ⟨h0, gs, dr, tk + 1, os⟩ "BaseException.__getattribute__" "BaseException" "__getattribute__" (.ref x) [.str "__class__" tk] [] _ (by decide +kernel) (by decide +kernel) isEx (PySem.F.args_bexc_ga (.ref x) (.str "__class__" tk)) ?_))
  unfold Builtin.«object.__getattribute__»
  refine wpAny_bind (wpAny_of_eq (a := ((Value.ref x : Value), [Value.str "__class__" tk])) (by first | rfl | (simp only [slotArgs]; rfl)) ?_)
  refine wpAny_bind (wpAny_pure (wpAny_bind (lt.at (wpAny_bind (l3.at ?_)))))
  show wpAny _ _ (holding [Value.builtin "object.__class__"] (call (.builtin "getset_descriptor.__get__") [.builtin "object.__class__", .ref x, .ref D]) >>= ret) _ _ _
  refine wpAny_bind (wpAny_holding (wpAny_call (class_get (s := ⟨h0, gs, dr, tk + 1, os⟩) (ox := ox) (od := some oz) X I ec.hm (wpAny_pure ?_))))
  show wpAny _ _ (handedOut (.ref D)) _ _ _
  rw [handedOut_of (v := .ref D) rfl]
  first
    | exact wpAny_pure (wpAny_pure fin)
    | exact wpAny_pure fin
    | exact wpAny_pure (wpAny_bind (wpAny_pure (wpAny_pure fin)))
theorem kitx_excD (ec : L2.ExcC K D) : KitX K (.ref x) (.ref D) (fun h => ∃ oz, InstAt h x ox D (some oz)) := by
  have k0 := handS_kitx_exc (x := x) (ox := ox) ec.hg ec.hk ec.hs ec.hd ec.ha ec.hn ec.ht ec.hm
  refine ⟨fun M h X ⟨oz, I⟩ => I.type, fun M h X _ => ?_, k0.ne, fun X ⟨oz, I⟩ q => cls_of_exc ec X I q⟩
  obtain ⟨cd, hc, _⟩ := any_some ec.hd
  unfold clsIn at hc
  split at hc
  · rename_i c' d' cd' sl' ho
    intro A' Q' E' s' k q
    unfold isType loadHead
    exact wpAny_bind (wpAny_loadPart (k _ _ (X _ _ ho)) (wpAny_pure q))
  · cases hc
end
end PySem.W
namespace DL
open PySem L2
section
variable {w : Wd} {W : WX} {X : Cx}
def isiR (pb : String → Option Bool) (pc px : Nat → Option Bool) (d : D) : Option Bool := match d with
  | .exc c _ => px c
  | d => isiP pb pc d
def rIsY (w : Wd) : List V → Hp → VK → Prop := fun xs H Q => ∃ (a dd : Addr) (gs : List (Str × V)) (c : Nat) (v : V) (u : Value) (b : Bool), xs = [.ref a, v] ∧ H a = some (ExcO (.ref (w.cl c)) (some dd) a) ∧ H dd = some (.xd gs) ∧ ExcC w.K (w.cl c) ∧ ClsV v u ∧ PySem.W.kitOne w.K (.ref (w.cl c)) u = some b ∧ Q (.bl b) H
theorem call_isY (hK : X.K = w.K) : CallR X (.builtin "isinstance") (rIsY w) := by
  intro pins s σ H xs us Q I r h
  obtain ⟨a, dd, gs, c, v, u, b, rfl, ha, hdd, ec, cv, ko, q⟩ := h
  obtain ⟨u1, u2, rfl, r1, r2⟩ := vals2 r
  cases r1
  obtain rfl := cv.eq r2
  obtain ⟨⟨oe, vs, hget, hz, hf⟩, _, _⟩ := I.hok _ _ ha
  have hx : ObjOk X.prog X.w H s.heap dd (.xd gs) := I.hok dd _ hdd
  obtain ⟨mA, hns, hr⟩ := hx
  obtain ⟨oD, hoD, _⟩ := lookIn_ns hns
  have J : PySem.W.InstAt s.heap a oe (w.cl c) (some oD) := ⟨hget, hz.1, by unfold PySem.W.notCls; rw [hf] <;> rfl, by rw [hz.2]; exact hoD⟩
  exact PySem.W.kia_one (PySem.W.kitx_excD ec) (hK ▸ I.kIn) ⟨oD, J⟩ ko (fun z => nomatch z) fun tk => ⟨.bl b, H, I.kept (t' := tk) fun _ _ z => z, rfl, q⟩
theorem e_isy {e c : Expr} {f : SE} {v : V} {u : Value} {pb : String → Option Bool} {pc px : Nat → Option Bool} {p pos : Pos} (hK : X.K = w.K) (b : BN X "isinstance" (.builtin "isinstance")) (k : IsxOk w u pb pc px) (cv : ClsV v u) (hc : PE X c (tC v))
    (he : starEach (e :: [c]) X.env = (false, eval e X.env) :: starEach [c] X.env) (he2 : starEach (c :: []) X.env = (false, eval c X.env) :: starEach [] X.env) (hpl : (backTo pos (starEach [c] X.env)).any (·.1) = false) (ha : PE X e (rdE w W f)) :
    PE X (.Call (.Name "isinstance" p) [e, c] [] pos) (rdE w W (sIsi (isiR pb pc px) f)) := by
  refine PE.imp (pe_callB (CallR.or (CallR.or (call_isi (X := X)) (call_isX hK)) (call_isY hK)) b.gl b.mg b.bt (pa_cons ha (pa_cons hc pa_nil he2) he) b.n1 b.n2 he hpl) fun σ H Q ⟨g, ρ, S, rel, h⟩ => ?_
  refine rdE_imp (bindE rel h goodE) fun x H1 ⟨r1, S1, m1, s1, rel1, res1, _, h1⟩ => ?_
  split at h1
  rotate_left
  · exact h1.elim
  rename_i bb eb
  have lk := look_view rel1 res1.arg
  have usual : isiP pb pc (view S1 r1.1) = some bb → (rIsi X.K [x, v] H1 Q ∨ rIsX w [x, v] H1 Q) ∨ rIsY w [x, v] H1 Q := fun eb => by
    obtain ⟨t, ty, ko⟩ := k.i.of lk eb
    exact .inl (.inl ⟨x, v, t, u, bb, rfl, cv, hK ▸ ty, hK ▸ ko, h1 _ _ (.same rel1 (.bl bb))⟩)
  cases ev : view S1 r1.1 with
  | exc c fs =>
    rw [ev] at lk eb
    obtain ⟨ec, ko⟩ := k.x c bb eb
    cases fs with
    | nil =>
      obtain ⟨a, rfl, hq⟩ := lk.exc0
      exact .inl (.inr ⟨a, c, v, u, bb, rfl, hq, ec, cv, ko, h1 _ _ (.same rel1 (.bl bb))⟩)
    | cons f1 fr =>
      have rp := lk.rep rfl
      cases rp with
      | excF hA hD rn => exact .inr ⟨_, _, _, c, v, u, bb, rfl, hA, hD, ec, cv, ko, h1 _ _ (.same rel1 (.bl bb))⟩
      | box b _ _ => cases b
  | _ => rw [ev] at eb; exact usual (by rw [ev]; exact eb)
end
end DL

set_option maxRecDepth 100000
/-! Symbolic evaluation, head first: what an expression, a statement comes to, by what is wanted behind it. -/
namespace DE
open DL
def WR {α : Type} (t : R α) (Q : α → Store → Prop) : Prop := match t with
  | .ok a S => Q a S
  | _ => False
/-- N behind it, R what is handed back, B a break, C a continue -/
structure Ks where
  N : Loc → Store → Prop
  R : RV → Store → Prop
  B : Loc → Store → Prop
  C : Loc → Store → Prop
def WO (o : O) (k : Ks) : Prop := match o with
  | .nx ρ S => k.N ρ S
  | .rt r S => k.R r S
  | .bk ρ S => k.B ρ S
  | .ct ρ S => k.C ρ S
  | _ => False
theorem WR.mono {α : Type} {t : R α} {P Q : α → Store → Prop} (h : WR t P) (i : ∀ a S, P a S → Q a S) : WR t Q := by
  cases t with
  | ok a S => exact i a S h
  | exc x S => exact h
  | bad => exact h
theorem WR.ex {α : Type} {t : R α} {Q : α → Store → Prop} (h : WR t Q) : ∃ a S, t = .ok a S ∧ Q a S := by
  cases t with
  | ok a S => exact ⟨a, S, rfl, h⟩
  | exc x S => exact h.elim
  | bad => exact h.elim
theorem WR.of {α : Type} {t : R α} {Q : α → Store → Prop} {a : α} {S : Store} (e : t = .ok a S) (h : Q a S) : WR t Q := by subst e; exact h
theorem WR_congr {α : Type} {t t' : R α} {Q : α → Store → Prop} (h : t = t') : WR t Q = WR t' Q := by rw [h]
theorem WO_congr {o o' : O} {k : Ks} (h : o = o') : WO o k = WO o' k := by rw [h]
section
variable {α β : Type} {ρ : Loc} {S : Store}
theorem w_bad {Q : α → Store → Prop} : WR (.bad : R α) Q = False := rfl
theorem w_exc {x : D} {Q : α → Store → Prop} : WR (.exc x S : R α) Q = False := rfl
theorem o_nx {ρ : Loc} {S : Store} {k : Ks} : WO (.nx ρ S) k = k.N ρ S := rfl
theorem o_bad {k : Ks} : WO .bad k = False := rfl
theorem w_ok {a : α} {Q : α → Store → Prop} : WR (.ok a S) Q = Q a S := rfl
theorem w_bind {r : R α} {f : α → Store → R β} {Q : β → Store → Prop} : WR (r.bind f) Q = WR r fun a S1 => WR (f a S1) Q := by cases r <;> rfl
theorem w_go {r : R α} {f : α → Store → R β} {x : D → Store → R β} (hx : ∀ a b, x a b = .bad ∨ x a b = .exc a b) {Q : β → Store → Prop} : WR (r.go x .bad f) Q = WR r fun a S1 => WR (f a S1) Q := by
  cases r with
  | ok a S => rfl
  | exc d S => rcases hx d S with h | h <;> (show WR (x d S) Q = False; rw [h]; rfl)
  | bad => rfl
theorem w_goS {r : R α} {f : α → Store → O} {k : Ks} : WO (goS r ρ f) k = WR r fun a S1 => WO (f a S1) k := by cases r <;> rfl
theorem w_opt {o : Option RV} {Q : RV → Store → Prop} : WR (opt o S) Q = ∃ q, o = some q ∧ Q q S := by
  cases o with
  | none => exact propext ⟨fun h => h.elim, fun ⟨_, e, _⟩ => by cases e⟩
  | some q => exact propext ⟨fun h => ⟨q, rfl, h⟩, fun ⟨_, e, h⟩ => by cases e; exact h⟩
theorem w_opt_some {q : RV} {Q : RV → Store → Prop} : WR (opt (some q) S) Q = Q q S := rfl
theorem w_ite {c : Prop} [Decidable c] {a b : R α} {Q : α → Store → Prop} : WR (if c then a else b) Q = if c then WR a Q else WR b Q := by split <;> rfl
theorem o_ite {c : Prop} [Decidable c] {a b : O} {k : Ks} : WO (if c then a else b) k = if c then WO a k else WO b k := by split <;> rfl
theorem w_iteB {c : Prop} [Decidable c] {a : R α} {Q : α → Store → Prop} : WR (if c then a else .bad) Q = (c ∧ WR a Q) := by
  split
  · rename_i h; simp [h]
  · rename_i h; simp [h, w_bad]
theorem o_iteB {c : Prop} [Decidable c] {a : O} {k : Ks} : WO (if c then a else .bad) k = (c ∧ WO a k) := by
  split
  · rename_i h; simp [h]
  · rename_i h; simp [h, o_bad]
variable {Q : RV → Store → Prop} {k : Ks}
/-! expressions -/
/-- a name that holds something anyone's, or lent -/
def look (ρ : Loc) (i : Nat) : Option RV := match ρ[i]? with
  | some (some (d, .sh)) => some (d, .sh)
  | some (some (d, .bor)) => some (d, .bor)
  | some (some (d, .own)) => some (d, .mine)
  | _ => none
theorem w_look {i : Nat} : WR (sVar i ρ S) Q = WR (opt (look ρ i) S) Q := by
  unfold sVar look
  cases h : ρ[i]? with
  | none => rfl
  | some o =>
    cases o with
    | none => rfl
    | some r => obtain ⟨d, fl⟩ := r; cases fl <;> rfl
theorem w_cst {d : D} : WR (sCst d ρ S) Q = Q (d, .sh) S := rfl
theorem w_nil {Q : List RV → Store → Prop} : WR (sNil ρ S) Q = Q [] S := rfl
theorem w_cons {f : SE} {fs : SA} {Q : List RV → Store → Prop} : WR (sCons f fs ρ S) Q = WR (f ρ S) fun r S1 => WR (fs ρ S1) fun rs S2 => Q (r :: rs) S2 := by
  unfold sCons; simp only [w_bind, w_ok]
theorem w_tup {fs : SA} : WR (sTup fs ρ S) Q = WR (fs ρ S) fun rs S1 => (rs.all leakOk = true ∧ rs.length ≤ PySem.sizeLine) ∧ Q (.tup (rs.map (·.1)), .sh) S1 := by
  unfold sTup; simp only [w_bind, w_iteB, w_ok]
theorem w_lst {fs : SA} : WR (sLst fs ρ S) Q = WR (fs ρ S) fun rs S1 => (rs.all leakOk = true ∧ rs.length ≤ PySem.sizeLine) ∧ Q (.lst (rs.map (·.1)), .own) S1 := by
  unfold sLst; simp only [w_bind, w_iteB, w_ok]
def asB (d : D) : Option Bool := match d with
  | .bl b => some b
  | _ => none
theorem w_T {f : SE} {Q : Bool → Store → Prop} : WR (sT f ρ S) Q = WR (f ρ S) fun r S1 => ∃ b, asB r.1 = some b ∧ Q b S1 := by
  unfold sT
  rw [w_bind]
  refine congrArg (WR _) (funext fun r => funext fun S1 => ?_)
  cases e : r.1 <;> simp [asB, w_ok, w_bad]
theorem w_if {t : ST} {f g : SE} : WR (sIf t f g ρ S) Q = WR (t ρ S) fun b S1 => if b = true then WR (f ρ S1) Q else WR (g ρ S1) Q := by
  unfold sIf; simp only [w_bind, w_ite]
theorem w_and {f g : SE} : WR (sAnd f g ρ S) Q = WR (f ρ S) fun r S1 => ∃ b, asB r.1 = some b ∧ if b = true then WR (g ρ S1) Q else Q (.bl false, .sh) S1 := by
  unfold sAnd
  rw [w_bind]
  refine congrArg (WR _) (funext fun r => funext fun S1 => ?_)
  cases e : r.1 <;> simp [asB, w_ok, w_bad]
  rename_i b
  cases b <;> simp [w_ok]
theorem w_or {f g : SE} : WR (sOr f g ρ S) Q = WR (f ρ S) fun r S1 => ∃ b, asB r.1 = some b ∧ if b = true then Q (.bl true, .sh) S1 else WR (g ρ S1) Q := by
  unfold sOr
  rw [w_bind]
  refine congrArg (WR _) (funext fun r => funext fun S1 => ?_)
  cases e : r.1 <;> simp [asB, w_ok, w_bad]
  rename_i b
  cases b <;> simp [w_ok]
theorem w_not {f : SE} : WR (sNot f ρ S) Q = WR (f ρ S) fun r S1 => ∃ b, asB r.1 = some b ∧ Q (.bl (!b), .sh) S1 := by
  unfold sNot
  rw [w_bind]
  refine congrArg (WR _) (funext fun r => funext fun S1 => ?_)
  cases e : r.1 <;> simp [asB, w_ok, w_bad]
variable {QB : Bool → Store → Prop}
theorem w_tand {s t : ST} : WR (tAndS s t ρ S) QB = WR (s ρ S) fun b S1 => if b = true then WR (t ρ S1) QB else QB false S1 := by
  unfold tAndS; simp only [w_bind, w_ite, w_ok]
theorem w_tor {s t : ST} : WR (tOrS s t ρ S) QB = WR (s ρ S) fun b S1 => if b = true then QB true S1 else WR (t ρ S1) QB := by
  unfold tOrS; simp only [w_bind, w_ite, w_ok]
theorem w_tnot {s : ST} : WR (tNotS s ρ S) QB = WR (s ρ S) fun b S1 => QB (!b) S1 := by
  unfold tNotS; simp only [w_bind, w_ok]
theorem w_op2 {op : RV → RV → Store → Option RV} {f g : SE} : WR (sOp2 op f g ρ S) Q = WR (f ρ S) fun r S1 => WR (g ρ S1) fun q S2 => WR (opt (op r q S2) S2) Q := by
  unfold sOp2; simp only [w_bind]
theorem w_op1 {op : RV → Store → Option RV} {f : SE} : WR (sOp1 op f ρ S) Q = WR (f ρ S) fun r S1 => WR (opt (op r S1) S1) Q := by
  unfold sOp1; simp only [w_bind]
theorem w_opN {op : List RV → Store → Option RV} {fs : SA} : WR (sOpN op fs ρ S) Q = WR (fs ρ S) fun rs S1 => WR (opt (op rs S1) S1) Q := by
  unfold sOpN; simp only [w_bind]
theorem w_b1 {op : RV → Store → Option RV} {f : SE} : WR (sB1 op f ρ S) Q = WR (f ρ S) fun r S1 => WR (opt (op r S1) S1) Q := by
  unfold sB1; simp only [w_opN, w_cons, w_nil, on1]
theorem w_b2 {op : RV → RV → Store → Option RV} {f g : SE} : WR (sB2 op f g ρ S) Q = WR (f ρ S) fun r S1 => WR (g ρ S1) fun q S2 => WR (opt (op r q S2) S2) Q := by
  unfold sB2; simp only [w_opN, w_cons, w_nil, on2]
theorem w_chain {op op' : RV → RV → Store → Option RV} {f u v : SE} : WR (sChain op op' f u v ρ S) Q = WR (f ρ S) fun x S1 => WR (u ρ S1) fun y S2 => WR (opt (op x y S2) S2) fun k S3 => ∃ b, asB k.1 = some b ∧ if b = true then WR (v ρ S3) fun z S4 => WR (opt (op' y z S4) S4) Q else Q (.bl false, .sh) S3 := by
  unfold sChain
  simp only [w_bind]
  refine congrArg (WR _) (funext fun x => funext fun S1 => ?_)
  refine congrArg (WR _) (funext fun y => funext fun S2 => ?_)
  refine congrArg (WR _) (funext fun r => funext fun S3 => ?_)
  cases e : r.1 <;> simp [asB, w_ok, w_bad]
  rename_i b
  cases b <;> simp [w_bind, w_ok]
theorem w_call {np : Nat} {F : SF} {drs : List RV} {fs : SA} : WR (sCall np F drs fs ρ S) Q = WR (fs ρ S) fun rs S1 => (rs ++ drs).length = np ∧ WR (F (rs ++ drs) S1) Q := by
  unfold sCall
  simp only [w_bind, w_iteB]
  refine congrArg (WR _) (funext fun rs => funext fun S1 => ?_)
  refine congrArg (And _) ?_
  cases F (rs ++ drs) S1 <;> rfl
theorem w_make {np : Nat} {F : SF} {drs : List RV} {fs : SA} : WR (sMake np F drs fs ρ S) Q = WR (fs ρ S) fun rs S1 => (rs ++ drs).length + 1 = np ∧ WR (F (rs ++ drs) S1) Q := by
  unfold sMake
  simp only [w_bind, w_iteB]
  refine congrArg (WR _) (funext fun rs => funext fun S1 => ?_)
  refine congrArg (And _) ?_
  cases F (rs ++ drs) S1 <;> rfl
def asIns (d : D) : Option (Nat × List (String × D)) := match d with
  | .ins c fs => some (c, fs)
  | _ => none
theorem w_prop {F : SF} {okc : Nat → Bool} {f : SE} : WR (sProp F okc f ρ S) Q = WR (f ρ S) fun r S1 => ∃ p, asIns r.1 = some p ∧ okc p.1 = true ∧ WR (F [(.ins p.1 p.2, lend r.2)] S1) Q := by
  unfold sProp
  simp only [w_bind]
  refine congrArg (WR _) (funext fun r => funext fun S1 => ?_)
  cases e : r.1 <;> simp [asIns, w_bad]
  rename_i c fs
  by_cases h : okc c = true
  · simp only [h, if_true, true_and]
    cases F [(.ins c fs, lend r.2)] S1 <;> rfl
  · simp [h, w_bad]
theorem w_own2 {F : SF} {okc : Nat → Bool} {f u : SE} : WR (sOwn2 F okc f u ρ S) Q = WR (f ρ S) fun a S1 => WR (u ρ S1) fun b S2 => (∃ p, asIns a.1 = some p ∧ okc p.1 = true) ∧ ((∃ i, b.1 = .int i) ∨ ∃ p, asIns b.1 = some p ∧ okc p.1 = true) ∧ WR (F [(a.1, lend a.2), (b.1, lend b.2)] S2) Q := by
  unfold sOwn2
  simp only [w_bind]
  refine congrArg (WR _) (funext fun a => funext fun S1 => ?_)
  refine congrArg (WR _) (funext fun b => funext fun S2 => ?_)
  have m : ∀ t : R RV, WR (match t with
      | .ok r S3 => .ok r S3
      | _ => .bad) Q = WR t Q := fun t => by cases t <;> rfl
  cases e : a.1 with
  | ins c fs =>
    cases e2 : b.1 with
    | ins c' fs' =>
      simp only [w_iteB, asIns, Option.some.injEq, exists_eq_left', reduceCtorEq, exists_false, false_or, and_assoc]
      refine congrArg (And _) (congrArg (And _) ?_)
      cases F [(D.ins c fs, lend a.snd), (D.ins c' fs', lend b.snd)] S2 <;> rfl
    | int i =>
      simp only [w_iteB, asIns, Option.some.injEq, exists_eq_left', D.int.injEq, exists_eq', true_or, true_and]
      refine congrArg (And _) ?_
      cases F [(D.ins c fs, lend a.snd), (D.int i, lend b.snd)] S2 <;> rfl
    | _ => simp [asIns, w_bad]
  | _ => simp [asIns, w_bad]
theorem w_fld {x : String} {okc : Nat → Bool} {f : SE} : WR (sFld x f okc ρ S) Q = WR (f ρ S) fun r S1 => ∃ p, asIns (view S1 r.1) = some p ∧ okc p.1 = true ∧ WR (opt ((getN p.2 x).map fun d => (d, .sh)) S1) Q := by
  unfold sFld
  simp only [w_bind]
  refine congrArg (WR _) (funext fun r => funext fun S1 => ?_)
  cases e : view S1 r.1 <;> simp [asIns, w_bad]
  rename_i c fs
  by_cases h : okc c = true
  · simp only [h, if_true, true_and]
    cases getN fs x <;> rfl
  · simp [h, w_bad]
def asInt (d : D) : Option Int := match d with
  | .int i => some i
  | _ => none
def one (rs : List RV) : Option RV := match rs with
  | [r] => some r
  | _ => none
theorem w_lenO {F : SF} {okc : Nat → Bool} {fs : SA} : WR (sLenO F okc fs ρ S) Q = WR (fs ρ S) fun rs S1 => ∃ r, one rs = some r ∧ match asIns (view S1 r.1) with
    | some p => okc p.1 = true ∧ WR (F [(r.1, lend r.2)] S1) fun q S2 => ∃ n, asInt q.1 = some n ∧ (0 ≤ n ∧ n < 2 ^ 63) ∧ Q (.int n, .sh) S2
    | none => WR (opt (oLen r S1) S1) Q := by
  unfold sLenO
  simp only [w_bind]
  refine congrArg (WR _) (funext fun rs => funext fun S1 => ?_)
  match rs with
  | [] => simp [w_bad, one]
  | [r] =>
    simp only [one, Option.some.injEq, exists_eq_left']
    cases e : view S1 r.1 with
    | ins c gs =>
      simp only [w_iteB, asIns]
      refine congrArg (And _) ?_
      cases F [(r.1, lend r.2)] S1 with
      | ok q S2 =>
        obtain ⟨d, fl⟩ := q
        cases d with
        | int n => simp only [w_iteB, w_ok, asInt, Option.some.injEq, exists_eq_left']
        | _ => simp [w_bad, w_ok, asInt]
      | exc x S2 => rfl
      | bad => rfl
    | _ => rfl
  | r :: q :: t => simp [w_bad, one]
theorem w_isi {p : D → Option Bool} {f : SE} : WR (sIsi p f ρ S) Q = WR (f ρ S) fun r S1 => WR (opt ((p (view S1 r.1)).map fun b => (.bl b, .sh)) S1) Q := by
  unfold sIsi
  simp only [w_bind]
  refine congrArg (WR _) (funext fun r => funext fun S1 => ?_)
  cases p (view S1 r.1) <;> rfl
theorem w_new {f : SE} : WR (sNew f ρ S) Q = WR (f ρ S) fun r S1 => r.2 = .own ∧ Q (.obj S1.length, .sh) (S1 ++ [r.1]) := by
  unfold sNew; simp only [w_bind, w_iteB, w_ok]
theorem w_noPart {Q : Option Int → Store → Prop} : WR (sNoPart ρ S) Q = Q none S := rfl
theorem w_part {f : SE} {Q : Option Int → Store → Prop} : WR (sPart f ρ S) Q = WR (f ρ S) fun r S1 => ∃ i, asInt r.1 = some i ∧ Q (some i) S1 := by
  unfold sPart
  rw [w_bind]
  refine congrArg (WR _) (funext fun r => funext fun S1 => ?_)
  cases e : r.1 <;> simp [asInt, w_ok, w_bad]
theorem w_sl {f : SE} {lo hi : SO} : WR (sSl f lo hi ρ S) Q = WR (f ρ S) fun r S1 => WR (lo ρ S1) fun l S2 => WR (hi ρ S2) fun u S3 => WR (opt (oSl r l u S3) S3) Q := by
  unfold sSl; simp only [w_bind]
theorem w_seqI {f : SE} {Q : List D → Store → Prop} : WR (sSeqI f ρ S) Q = WR (f ρ S) fun r S1 => ∃ ds, seqOf r = some ds ∧ Q ds S1 := by
  unfold sSeqI
  rw [w_bind]
  refine congrArg (WR _) (funext fun r => funext fun S1 => ?_)
  cases seqOf r <;> simp [w_ok, w_bad]
def rng1 (rs : List RV) : Option Int := match rs with
  | [(.int j, _)] => some j
  | _ => none
theorem w_rng1 {fs : SA} {Q : List D → Store → Prop} : WR (sRng1 fs ρ S) Q = WR (fs ρ S) fun rs S1 => ∃ j, rng1 rs = some j ∧ (-(2 ^ 62) ≤ j ∧ j < 2 ^ 62) ∧ Q (rngD 0 j.toNat) S1 := by
  unfold sRng1
  rw [w_bind]
  refine congrArg (WR _) (funext fun rs => funext fun S1 => ?_)
  unfold rng1
  split
  · simp only [w_iteB, w_ok, Option.some.injEq, exists_eq_left']
  · simp [w_bad]
theorem w_lc {fi : SI} {t : Tgt} {c : ST} {f : SE} {vs : List Nat} : WR (sLc fi t c f vs ρ S) Q = WR (fi ρ S) fun ds S1 => ds.length < PySem.sizeLine ∧ WR (lcI t c f (wipeL ρ vs) ds S1) fun rs S2 => Q (.lst rs, .own) S2 := by
  unfold sLc; simp only [w_bind, w_iteB, w_ok]
theorem w_lc0 {t : Tgt} {c : ST} {f : SE} {Q : List D → Store → Prop} : WR (lcI t c f ρ [] S) Q = Q [] S := rfl
theorem w_lc1 {i : Nat} {f : SE} {d : D} {ds : List D} {Q : List D → Store → Prop} : WR (lcI (gNm i) sYes f ρ (d :: ds) S) Q = WR (f (ρ.set i (some (d, .sh))) S) fun r S1 => leakOk r = true ∧ WR (lcI (gNm i) sYes f ρ ds S1) fun rs S2 => Q (r.1 :: rs) S2 := by
  rw [lcI]
  simp only [gNm, sYes, R.go, if_true]
  cases f (ρ.set i (some (d, .sh))) S with
  | ok r S1 =>
    simp only [R.go, w_iteB, w_bind, w_ok, w_bad]
  | exc x S1 => rfl
  | bad => rfl
theorem w_lcT {i : Nat} {c : ST} {f : SE} {d : D} {ds : List D} {Q : List D → Store → Prop} : WR (lcI (gNm i) c f ρ (d :: ds) S) Q = WR (c (ρ.set i (some (d, .sh))) S) fun k S0 => if k = true then (WR (f (ρ.set i (some (d, .sh))) S0) fun r S1 => leakOk r = true ∧ WR (lcI (gNm i) c f ρ ds S1) fun rs S2 => Q (r.1 :: rs) S2) else WR (lcI (gNm i) c f ρ ds S0) Q := by
  rw [lcI]
  show WR ((c (ρ.set i (some (d, .sh))) S).go _ _ _) Q = _
  rw [w_go (fun _ _ => .inl rfl)]
  refine congrArg (WR _) (funext fun k => funext fun S0 => ?_)
  rw [w_ite, w_go (fun _ _ => .inl rfl)]
  simp only [w_iteB, w_bind, w_ok]
theorem w_dict0 {Q : List (D × D) → Store → Prop} : WR (prI [] ρ S) Q = Q [] S := rfl
theorem w_dict1 {f u : SE} {ps : List (SE × SE)} {Q : List (D × D) → Store → Prop} : WR (prI ((f, u) :: ps) ρ S) Q = WR (f ρ S) fun k S1 => WR (u ρ S1) fun v S2 => ((dKey k.1).isSome = true ∧ leakOk v = true) ∧ WR (prI ps ρ S2) fun qs S3 => Q ((k.1, v.1) :: qs) S3 := by
  rw [prI]
  rw [w_go (fun _ _ => .inl rfl)]
  refine congrArg (WR _) (funext fun k => funext fun S1 => ?_)
  rw [w_go (fun _ _ => .inl rfl)]
  refine congrArg (WR _) (funext fun v => funext fun S2 => ?_)
  simp only [w_iteB, w_bind, w_ok]
theorem w_dict {ps : List (SE × SE)} : WR (sDict ps ρ S) Q = WR (prI ps ρ S) fun kvs S1 => kvs.length ≤ 15 ∧ Q (.dk (mergeD [] kvs), .own) S1 := by
  unfold sDict
  rw [w_go (fun _ _ => .inl rfl)]
  simp only [w_iteB, w_ok]
def asDk (d : D) : Option (List (D × D)) := match d with
  | .dk kvs => some kvs
  | _ => none
def optR (o z : Option RV) : Option RV := match o with
  | some q => some q
  | none => z
theorem w_get2 {f k u : SE} : WR (sGet2 f k u ρ S) Q = WR (f ρ S) fun o S1 => ∃ kvs, asDk o.1 = some kvs ∧ WR (k ρ S1) fun y S2 => WR (u ρ S2) fun z S3 => (dKey y.1).isSome = true ∧ WR (opt (optR ((getK kvs y.1).map fun d => (d, .sh)) (if leakOk z = true then some (z.1, .sh) else none)) S3) Q := by
  unfold sGet2
  rw [w_bind]
  refine congrArg (WR _) (funext fun o => funext fun S1 => ?_)
  cases e : o.1 <;> simp [asDk, w_bad]
  rename_i kvs
  simp only [w_bind, w_iteB]
  refine Iff.of_eq ?_
  refine congrArg (WR _) (funext fun y => funext fun S2 => ?_)
  refine congrArg (WR _) (funext fun z => funext fun S3 => ?_)
  congr
  cases getK kvs y.1 with
  | some d => rfl
  | none => simp only [Option.map_none, optR]; split <;> rfl
theorem w_join {f g : SE} : WR (sJoin f g ρ S) Q = WR (f ρ S) fun r S1 => ∃ x, r.1 = .str x ∧ WR (g ρ S1) fun q S2 => ∃ ys, (rowOf (view S2 q.1)).bind strsD = some ys ∧ (ys.map (·.length)).sum + ys.length * x.length ≤ 16777216 ∧ Q (.str (joinS x ys), .sh) S2 := by
  unfold sJoin
  rw [w_bind]
  refine congrArg (WR _) (funext fun r => funext fun S1 => ?_)
  cases e : r.1 <;> simp [w_bad]
  rename_i x
  simp only [w_bind]
  refine Iff.of_eq ?_
  refine congrArg (WR _) (funext fun q => funext fun S2 => ?_)
  cases (rowOf (view S2 q.1)).bind strsD with
  | none => simp [w_bad]
  | some ys => simp only [w_iteB, w_ok, Option.some.injEq, exists_eq_left']
/-! statements -/
theorem o_skip : WO (sSkip ρ S) k = k.N ρ S := rfl
theorem o_seq {s t : SS} : WO (sSeq s t ρ S) k = WO (s ρ S) { k with N := fun ρ1 S1 => WO (t ρ1 S1) k } := by
  unfold sSeq
  cases s ρ S <;> rfl
theorem o_drop {f : SE} : WO (sDrop f ρ S) k = WR (f ρ S) fun _ S1 => k.N ρ S1 := by unfold sDrop; rw [w_goS]; rfl
theorem o_ret {f : SE} : WO (sRet f ρ S) k = WR (f ρ S) fun r S1 => leakOk r = true ∧ k.R (r.1, if r.2 = .own then .own else .sh) S1 := by unfold sRet; rw [w_goS]; simp only [o_iteB]; rfl
theorem o_retN : WO (sRetN ρ S) k = k.R (.non, .sh) S := rfl
theorem o_set {i : Nat} {f : SE} : WO (sSet i f ρ S) k = WR (f ρ S) fun r S1 => leakOk r = true ∧ k.N (ρ.set i (some (r.1, .sh))) S1 := by unfold sSet; rw [w_goS]; simp only [o_iteB]; rfl
theorem o_own {i : Nat} {f : SE} : WO (sOwn i f ρ S) k = WR (f ρ S) fun r S1 => r.2 = .own ∧ k.N (ρ.set i (some (r.1, .own))) S1 := by unfold sOwn; rw [w_goS]; simp only [o_iteB]; rfl
theorem o_if {t : ST} {a b : SS} : WO (sIfS t a b ρ S) k = WR (t ρ S) fun c S1 => if c = true then WO (a ρ S1) k else WO (b ρ S1) k := by unfold sIfS; rw [w_goS]; simp only [o_ite]
theorem o_asg {t : Tgt} {f : SE} : WO (sAsg t f ρ S) k = WR (f ρ S) fun r S1 => leakOk r = true ∧ ∃ ρ', t r.1 ρ = some ρ' ∧ k.N ρ' S1 := by
  unfold sAsg
  rw [w_goS]
  simp only [o_iteB]
  refine congrArg (WR _) (funext fun r => funext fun S1 => ?_)
  cases t r.1 ρ <;> simp [o_bad, o_nx]
def two (rs : List RV) : Option (RV × RV) := match rs with
  | [r, q] => some (r, q)
  | _ => none
theorem o_par {i j : Nat} {fs : SA} : WO (sPar i j fs ρ S) k = WR (fs ρ S) fun rs S1 => ∃ p, two rs = some p ∧ (leakOk p.1 = true ∧ leakOk p.2 = true) ∧ k.N ((ρ.set i (some (p.1.1, .sh))).set j (some (p.2.1, .sh))) S1 := by
  unfold sPar
  rw [w_goS]
  refine congrArg (WR _) (funext fun rs => funext fun S1 => ?_)
  match rs with
  | [] => simp [two, o_bad]
  | [a] => simp [two, o_bad]
  | [a, b] =>
    simp only [two, o_iteB, Option.some.injEq, exists_eq_left']
    rfl
  | a :: b :: c :: t => simp [two, o_bad]
theorem o_for {f : SI} {t : Tgt} {b : SS} : WO (sFor f t b ρ S) k = WR (f ρ S) fun ds S1 => WO (forI t b ds ρ S1) k := by unfold sFor; rw [w_goS]
theorem o_for0 {t : Tgt} {b : SS} : WO (forI t b [] ρ S) k = k.N ρ S := rfl
theorem o_for1 {t : Tgt} {b : SS} {d : D} {ds : List D} : WO (forI t b (d :: ds) ρ S) k = ∃ ρ1, t d ρ = some ρ1 ∧ WO (b ρ1 S) { N := fun ρ2 S2 => WO (forI t b ds ρ2 S2) k, R := k.R, B := k.N, C := fun ρ2 S2 => WO (forI t b ds ρ2 S2) k } := by
  rw [forI]
  cases t d ρ with
  | none => simp [o_bad]
  | some ρ1 =>
    simp only [Option.some.injEq, exists_eq_left']
    cases b ρ1 S <;> rfl
theorem o_forN {i : Nat} {b : SS} {d : D} {ds : List D} : WO (forI (gNm i) b (d :: ds) ρ S) k = WO (b (ρ.set i (some (d, .sh))) S) { N := fun ρ2 S2 => WO (forI (gNm i) b ds ρ2 S2) k, R := k.R, B := k.N, C := fun ρ2 S2 => WO (forI (gNm i) b ds ρ2 S2) k } := by
  rw [o_for1]; simp only [gNm, Option.some.injEq, exists_eq_left']
def asObj (d : D) : Option Nat := match d with
  | .obj n => some n
  | _ => none
theorem o_put {fo fk fv : SE} : WO (sPut fo fk fv ρ S) k = WR (fv ρ S) fun v S1 => WR (fo ρ S1) fun o S2 => WR (fk ρ S2) fun y S3 => ∃ n, asObj o.1 = some n ∧ ∃ kvs, (S3[n]?).bind asDk = some kvs ∧ (leakOk v = true ∧ (dKey y.1).isSome = true ∧ kvs.length < PySem.sizeLine) ∧ k.N ρ (S3.set n (.dk (setK kvs y.1 v.1))) := by
  unfold sPut
  simp only [w_goS]
  refine congrArg (WR _) (funext fun v => funext fun S1 => ?_)
  refine congrArg (WR _) (funext fun o => funext fun S2 => ?_)
  refine congrArg (WR _) (funext fun y => funext fun S3 => ?_)
  cases e : o.1 <;> simp [asObj, o_bad]
  rename_i n
  cases e2 : S3[n]? with
  | none => simp [o_bad]
  | some d => cases d <;> simp [asDk, o_bad, o_iteB, o_nx]
def selfI (ρ : Loc) : Option (Nat × List (String × D)) := match ρ[(0 : Nat)]? with
  | some (some (.ins c fs, .own)) => some (c, fs)
  | _ => none
theorem o_fldS {x : String} {f : SE} {okc : Nat → Bool} : WO (sFldS x f okc ρ S) k = WR (f ρ S) fun r S1 => ∃ p, selfI ρ = some p ∧ (leakOk r = true ∧ okc p.1 = true ∧ p.2.length < 1000) ∧ k.N (ρ.set 0 (some (.ins p.1 (putN x r.1 p.2), .own))) S1 := by
  unfold sFldS
  simp only [w_goS]
  refine congrArg (WR _) (funext fun r => funext fun S1 => ?_)
  unfold selfI
  split
  · rename_i h
    simp only [o_iteB, h, Option.some.injEq, exists_eq_left', o_nx]
  · rename_i h
    refine propext ⟨fun q => q.elim, ?_⟩
    rintro ⟨p, e, _⟩
    first
      | (cases e; done)
      | (split at e
         · rename_i h2
           exact absurd h2 (h _ _)
         · cases e)
/-! bodies -/
theorem w_body {n : Nat} {b : SS} {rs : List RV} : WR (bodyF n b rs S) Q = WO (b (entry n rs) S) { N := fun _ S' => Q (.non, .sh) S', R := Q, B := fun _ _ => False, C := fun _ _ => False } := by
  unfold bodyF
  cases b (entry n rs) S <;> rfl
theorem w_init {n c : Nat} {b : SS} {rs : List RV} : WR (initF n c b rs S) Q = WO (b (entryI n c rs) S) { N := fun ρ S' => ∃ p, selfI ρ = some p ∧ Q (.ins p.1 p.2, .own) S', R := fun _ _ => False, B := fun _ _ => False, C := fun _ _ => False } := by
  unfold initF
  cases b (entryI n c rs) S with
  | nx ρ S' =>
    unfold selfI
    rw [o_nx]
    dsimp only
    split
    · rename_i h
      simp only [h, w_ok, Option.some.injEq, exists_eq_left']
    · rename_i h
      refine propext ⟨fun q => q.elim, ?_⟩
      rintro ⟨p, e, _⟩
      first
        | (cases e; done)
        | (split at e
           · rename_i h2
             exact absurd h2 (h _ _)
           · cases e)
  | _ => rfl
end
end DE

set_option maxRecDepth 100000
namespace DE
open DL
theorem lk_sh (d : D) : leakOk (d, .sh) = true := rfl
theorem lk_own (d : D) : leakOk (d, .own) = true := rfl
theorem lk_int {i : Int} {fl : Fl} : leakOk (.int i, fl) = true := by simp [leakOk, box]
theorem lk_str {i : String} {fl : Fl} : leakOk (.str i, fl) = true := by simp [leakOk, box]
theorem lk_tup {i : List D} {fl : Fl} : leakOk (.tup i, fl) = true := by simp [leakOk, box]
theorem lk_bl {i : Bool} {fl : Fl} : leakOk (.bl i, fl) = true := by simp [leakOk, box]
theorem lk_non {fl : Fl} : leakOk (.non, fl) = true := by simp [leakOk, box]
theorem lk_obj {n : Nat} {fl : Fl} : leakOk (.obj n, fl) = true := by simp [leakOk, box]
theorem sz_le {n : Nat} (h : n ≤ 1000000) : (n ≤ PySem.sizeLine) = True := eq_true (Nat.le_trans h (by decide))
theorem sz_lt {n : Nat} (h : n ≤ 1000000) : (n < PySem.sizeLine) = True := eq_true (Nat.lt_of_le_of_lt h (by decide))
theorem v_int {S : Store} {i : Int} : view S (.int i) = .int i := rfl
theorem v_bl {S : Store} {i : Bool} : view S (.bl i) = .bl i := rfl
theorem v_str {S : Store} {i : String} : view S (.str i) = .str i := rfl
theorem v_tup {S : Store} {i : List D} : view S (.tup i) = .tup i := rfl
theorem v_lst {S : Store} {i : List D} : view S (.lst i) = .lst i := rfl
theorem v_non {S : Store} : view S .non = .non := rfl
theorem v_ins {S : Store} {c : Nat} {fs : List (String × D)} : view S (.ins c fs) = .ins c fs := rfl
theorem v_dk {S : Store} {i : List (D × D)} : view S (.dk i) = .dk i := rfl
theorem a_int {i j : Int} {a b : Fl} {S : Store} : oAdd (.int i, a) (.int j, b) S = some (.int (i + j), .sh) := rfl
theorem a_lst {x y : List D} {a b : Fl} {S : Store} : oAdd (.lst x, a) (.lst y, b) S = if x.length + y.length ≤ PySem.sizeLine then some (.lst (x ++ y), .own) else none := rfl
theorem a_tup {x y : List D} {a b : Fl} {S : Store} : oAdd (.tup x, a) (.tup y, b) S = if x.length + y.length ≤ PySem.sizeLine then some (.tup (x ++ y), .sh) else none := rfl
theorem a_str {x y : String} {a b : Fl} {S : Store} : oAdd (.str x, a) (.str y, b) S = if x.length + y.length ≤ PySem.sizeLine then some (.str (x ++ y), .sh) else none := rfl
theorem s_int {i j : Int} {a b : Fl} {S : Store} : oSub (.int i, a) (.int j, b) S = some (.int (i - j), .sh) := rfl
theorem lt_int {i j : Int} {a b : Fl} {S : Store} : oLt (.int i, a) (.int j, b) S = some (.bl (decide (i < j)), .sh) := rfl
theorem le_int {i j : Int} {a b : Fl} {S : Store} : oLe (.int i, a) (.int j, b) S = some (.bl (decide (i ≤ j)), .sh) := rfl
theorem gt_int {i j : Int} {a b : Fl} {S : Store} : oGt (.int i, a) (.int j, b) S = some (.bl (decide (j < i)), .sh) := rfl
theorem ge_int {i j : Int} {a b : Fl} {S : Store} : oGe (.int i, a) (.int j, b) S = some (.bl (decide (j ≤ i)), .sh) := rfl
theorem m_lst {x : List D} {j : Int} {a b : Fl} {S : Store} : oMul (.lst x, a) (.int j, b) S = if -(2 ^ 63) ≤ j ∧ j < 2 ^ 63 ∧ x.length * j.toNat ≤ PySem.sizeLine then some (.lst (List.replicate j.toNat x).flatten, .own) else none := rfl
theorem m_tup {x : List D} {j : Int} {a b : Fl} {S : Store} : oMul (.tup x, a) (.int j, b) S = if 0 ≤ j ∧ j ≤ 100000 ∧ x.length * j.toNat ≤ 1000000 then some (.tup (List.replicate j.toNat x).flatten, .sh) else none := rfl
theorem len_tup {x : List D} {a : Fl} {S : Store} : oLen (.tup x, a) S = some (.int x.length, .sh) := rfl
theorem len_lst {x : List D} {a : Fl} {S : Store} : oLen (.lst x, a) S = some (.int x.length, .sh) := rfl
theorem ix_tup {x : List D} {j : Int} {a b : Fl} {S : Store} : oIdx (.tup x, a) (.int j, b) S = (L2.atI x j).map fun d => (d, .sh) := rfl
theorem ix_lst {x : List D} {j : Int} {a b : Fl} {S : Store} : oIdx (.lst x, a) (.int j, b) S = (L2.atI x j).map fun d => (d, .sh) := rfl
theorem at_0 {x : D} {r : List D} : L2.atI (x :: r) 0 = some x := by simp [L2.atI, L2.ixN]
theorem at_1 {x y : D} {r : List D} : L2.atI (x :: y :: r) 1 = some y := by
  unfold L2.atI L2.ixN
  have : (1 : Int) < (r.length : Int) + 1 + 1 := by omega
  simp [this]
theorem at_2 {x y z : D} {r : List D} : L2.atI (x :: y :: z :: r) 2 = some z := by
  unfold L2.atI L2.ixN
  have : (2 : Int) < (r.length : Int) + 1 + 1 + 1 := by omega
  simp [this]
theorem at_3 {x y z u : D} {r : List D} : L2.atI (x :: y :: z :: u :: r) 3 = some u := by
  unfold L2.atI L2.ixN
  have : (3 : Int) < (r.length : Int) + 1 + 1 + 1 + 1 := by omega
  simp [this]
theorem q_str {x y : String} {a b : Fl} {S : Store} : oEq (.str x, a) (.str y, b) S = some (.bl (x == y), .sh) := by simp [oEq, view, plain, dep, deq]
theorem q_int {x y : Int} {a b : Fl} {S : Store} : oEq (.int x, a) (.int y, b) S = some (.bl (decide (x = y)), .sh) := by by_cases h : x = y <;> simp [oEq, view, plain, dep, deq, h]
theorem nq_int {x y : Int} {a b : Fl} {S : Store} : oNe (.int x, a) (.int y, b) S = some (.bl (decide (x ≠ y)), .sh) := by by_cases h : x = y <;> simp [oNe, view, plain, dep, deq, h]
theorem nq_bl {x y : Bool} {a b : Fl} {S : Store} : oNe (.bl x, a) (.bl y, b) S = some (.bl (x != y), .sh) := by simp [oNe, view, plain, dep, deq, bne]
theorem tupOf_lst {x : List D} {a : Fl} {S : Store} : oTupOf (.lst x, a) S = some (.tup x, .sh) := rfl
theorem tupOf_tup {x : List D} {a : Fl} {S : Store} : oTupOf (.tup x, a) S = some (.tup x, .sh) := rfl
theorem lstOf_lst {x : List D} {a : Fl} {S : Store} : oLstOf (.lst x, a) S = some (.lst x, .own) := rfl
theorem lstOf_tup {x : List D} {a : Fl} {S : Store} : oLstOf (.tup x, a) S = some (.lst x, .own) := rfl
theorem int_int {x : Int} {a : Fl} {S : Store} : oInt (.int x, a) S = some (.int x, .sh) := rfl
theorem int_bl {x : Bool} {a : Fl} {S : Store} : oInt (.bl x, a) S = some (.int (if x then 1 else 0), .sh) := rfl
theorem max_int {i j : Int} {a b : Fl} {S : Store} : oMax2 (.int i, a) (.int j, b) S = some (.int (if j > i then j else i), .sh) := rfl
theorem min_int {i j : Int} {a b : Fl} {S : Store} : oMin2 (.int i, a) (.int j, b) S = some (.int (if j < i then j else i), .sh) := rfl
theorem asB_bl {b : Bool} : asB (.bl b) = some b := rfl
theorem asI_int {b : Int} : asInt (.int b) = some b := rfl
theorem asIns_ins {c : Nat} {fs : List (String × D)} : asIns (.ins c fs) = some (c, fs) := rfl
theorem one_eq {r : RV} : one [r] = some r := rfl
theorem asDk_dk {kvs : List (D × D)} : asDk (.dk kvs) = some kvs := rfl
theorem key_str {x : String} : (dKey (.str x)).isSome = true := rfl
theorem key_int {x : Int} : (dKey (.int x)).isSome = true := rfl
theorem two_eq {r q : RV} : two [r, q] = some (r, q) := rfl
theorem rng1_eq {j : Int} {fl : Fl} : rng1 [(.int j, fl)] = some j := rfl
theorem seqOf_own {ds : List D} : seqOf (.lst ds, .own) = some ds := rfl
theorem seqOf_sh {ds : List D} : seqOf (.lst ds, .sh) = some ds := rfl
theorem seqOf_bor {ds : List D} : seqOf (.lst ds, .bor) = some ds := rfl
theorem seqOf_tup {ds : List D} {fl : Fl} : seqOf (.tup ds, fl) = some ds := rfl
theorem seqOf_str {x : String} {fl : Fl} : seqOf (.str x, fl) = some (signs x) := rfl
theorem asObj_obj {n : Nat} : asObj (.obj n) = some n := rfl
theorem look_sh {ρ : Loc} {i : Nat} {d : D} (h : ρ[i]? = some (some (d, .sh))) : look ρ i = some (d, .sh) := by simp [look, h]
theorem look_lend {ρ : Loc} {i : Nat} {d : D} {fl : Fl} (h : ρ[i]? = some (some (d, lend fl))) : look ρ i = some (d, lend fl) := by cases fl <;> simp [look, h, lend]
theorem look_own {ρ : Loc} {i : Nat} {d : D} (h : ρ[i]? = some (some (d, .own))) : look ρ i = some (d, .mine) := by simp [look, h]
theorem look0 {x : Option RV} {r : Loc} : look (x :: r) 0 = look [x] 0 := by cases x <;> rfl
theorem looks {x : Option RV} {r : Loc} {n : Nat} : look (x :: r) (n + 1) = look r n := by simp [look]
theorem look1_sh {d : D} : look [some (d, .sh)] 0 = some (d, .sh) := rfl
theorem look1_bor {d : D} : look [some (d, .bor)] 0 = some (d, .bor) := rfl
theorem look1_own {d : D} : look [some (d, .own)] 0 = some (d, .mine) := rfl
theorem look1_lend {d : D} {fl : Fl} : look [some (d, lend fl)] 0 = some (d, lend fl) := by cases fl <;> rfl
theorem look2_lend {d : D} {fl : Fl} : look [some (d, lend (lend fl))] 0 = some (d, lend (lend fl)) := by cases fl <;> rfl
theorem lend2 {fl : Fl} : lend (lend fl) = lend fl := by cases fl <;> rfl
theorem lend_ret {fl : Fl} : (if lend fl = Fl.own then Fl.own else Fl.sh) = Fl.sh := by cases fl <;> rfl
theorem lend_sh : lend .sh = .sh := rfl
theorem lend_own : lend .own = .sh := rfl
theorem lend_bor : lend .bor = .bor := rfl
theorem lend_mine : lend .mine = .bor := rfl
theorem en_nil {n : Nat} : entry n [] = List.replicate n none := by simp [entry]
theorem en_cons {n : Nat} {r : RV} {rs : List RV} : entry (n + 1) (r :: rs) = some (r.1, lend r.2) :: entry n rs := by simp [entry]
theorem wi_nil {ρ : Loc} : wipeL ρ [] = ρ := rfl
theorem wi_cons {ρ : Loc} {v : Nat} {vs : List Nat} : wipeL ρ (v :: vs) = (wipeL ρ vs).set v none := rfl
theorem all_nil : ([] : List RV).all leakOk = true := rfl
theorem all_cons {r : RV} {rs : List RV} : (r :: rs).all leakOk = (leakOk r && rs.all leakOk) := rfl
theorem WR.eq {α : Type} {t : R α} {a : α} {S : Store} (h : WR t fun r S' => r = a ∧ S' = S) : t = .ok a S := by
  obtain ⟨r, S', e, rfl, rfl⟩ := h.ex
  exact e
theorem in2 {x p q : String} {a b : Fl} {S : Store} : oIn (.str x, a) (.tup [.str p, .str q], b) S = some (.bl (p == x || q == x), .sh) := by simp [oIn, oInG, view, inSeq, plain, plains, dep, memD, deq]
theorem in3 {x p q r : String} {a b : Fl} {S : Store} : oIn (.str x, a) (.tup [.str p, .str q, .str r], b) S = some (.bl (p == x || (q == x || r == x)), .sh) := by simp [oIn, oInG, view, inSeq, plain, plains, dep, memD, deq, Bool.or_assoc]
theorem lc_map {A : Type} {i : Nat} {f : SE} {ρ : Loc} {S : Store} (e g : A → D) : ∀ (l : List A), (∀ a ∈ l, ∃ fl, f (ρ.set i (some (e a, .sh))) S = .ok (g a, fl) S ∧ leakOk (g a, fl) = true) → lcI (gNm i) sYes f ρ (l.map e) S = .ok (l.map g) S
  | [], _ => rfl
  | a :: l, h => by
    obtain ⟨fl, h1, h2⟩ := h a List.mem_cons_self
    have ih := lc_map e g l fun b hb => h b (List.mem_cons_of_mem _ hb)
    rw [List.map_cons, List.map_cons, lcI]
    simp only [gNm, sYes, R.go, if_true, h1, h2, ih]
theorem intsD_map : ∀ l : List Int, intsD (l.map D.int) = some l
  | [] => rfl
  | i :: l => by simp [intsD, intsD_map l]
theorem blsD_map : ∀ l : List Bool, blsD (l.map D.bl) = some l
  | [] => rfl
  | i :: l => by simp [blsD, blsD_map l]
theorem any_bls {l : List Bool} {a : Fl} {S : Store} : oAny (.lst (l.map D.bl), a) S = some (.bl (l.any id), .sh) := by simp [oAny, blsOf, view, lstOf, blsD_map]
theorem all_bls {l : List Bool} {a : Fl} {S : Store} : oAll (.lst (l.map D.bl), a) S = some (.bl (l.all id), .sh) := by simp [oAll, blsOf, view, lstOf, blsD_map]
theorem max_ints {i : Int} {l : List Int} {a : Fl} {S : Store} : oMaxL (.lst (.int i :: l.map D.int), a) S = some (.int (l.foldl max i), .sh) := by
  have := intsD_map (i :: l)
  simp only [List.map_cons] at this
  simp [oMaxL, intsOf, view, lstOf, this, maxI]
theorem sl42 {x y z u : D} {a : Fl} {S : Store} : oSl (.tup [x, y, z, u], a) (some 2) none S = some (.tup [z, u], .sh) := rfl
theorem sl43 {x y z u : D} {a : Fl} {S : Store} : oSl (.tup [x, y, z, u], a) (some 3) none S = some (.tup [u], .sh) := rfl
theorem sl21 {x y : D} {a : Fl} {S : Store} : oSl (.tup [x, y], a) (some 1) none S = some (.tup [y], .sh) := rfl
theorem sl22 {x y : D} {a : Fl} {S : Store} : oSl (.tup [x, y], a) (some 2) none S = some (.tup [], .sh) := rfl
theorem sl11 {x : D} {a : Fl} {S : Store} : oSl (.tup [x], a) (some 1) none S = some (.tup [], .sh) := rfl
theorem sl4h2 {x y z u : D} {a : Fl} {S : Store} : oSl (.tup [x, y, z, u], a) none (some 2) S = some (.tup [x, y], .sh) := rfl
theorem sl4h3 {x y z u : D} {a : Fl} {S : Store} : oSl (.tup [x, y, z, u], a) none (some 3) S = some (.tup [x, y, z], .sh) := rfl
/-! ### loops by what holds between the turns -/
theorem w_lcP {i : Nat} {f : SE} {ρ : Loc} (P : List D → Store → Prop) {ds : List D} {S : Store} (h0 : P [] S) (hs : ∀ acc d S, ds[acc.length]? = some d → P acc S → WR (f (ρ.set i (some (d, .sh))) S) fun r S' => leakOk r = true ∧ P (acc ++ [r.1]) S') :
    WR (lcI (gNm i) sYes f ρ ds S) fun rs S' => rs.length = ds.length ∧ P rs S' := by
  have go : ∀ (es acc : List D) S, (∀ k, ds[acc.length + k]? = es[k]?) → P acc S → WR (lcI (gNm i) sYes f ρ es S) fun rs S' => rs.length = es.length ∧ P (acc ++ rs) S' := by
    intro es
    induction es with
    | nil => intro acc S _ h; exact ⟨rfl, by simpa using h⟩
    | cons d es ih =>
      intro acc S hk h
      rw [w_lc1]
      refine (hs acc d S (by simpa using hk 0) h).mono ?_
      intro r S1 ⟨l, p⟩
      refine ⟨l, (ih (acc ++ [r.1]) S1 (fun k => ?_) p).mono ?_⟩
      · have := hk (k + 1)
        simp only [List.length_append, List.length_cons, List.length_nil, List.getElem?_cons_succ] at this ⊢
        rw [← this]
        congr 1
        omega
      · intro rs S2 ⟨l2, p2⟩
        exact ⟨by simp [l2], by simpa using p2⟩
  simpa using go ds [] S (fun k => by simp) h0
theorem o_forP {i : Nat} {b : SS} (P : Nat → Loc → Store → Prop) {ds : List D} {ρ : Loc} {S : Store} {k : Ks} (h0 : P 0 ρ S) (hs : ∀ n d ρ S, ds[n]? = some d → P n ρ S → WO (b (ρ.set i (some (d, .sh))) S) { N := P (n + 1), R := k.R, B := k.N, C := P (n + 1) }) (he : ∀ ρ S, P ds.length ρ S → k.N ρ S) :
    WO (forI (gNm i) b ds ρ S) k := by
  have go : ∀ (es : List D) n ρ S, (∀ k, ds[n + k]? = es[k]?) → n + es.length = ds.length → P n ρ S → WO (forI (gNm i) b es ρ S) k := by
    intro es
    induction es with
    | nil => intro n ρ S _ hl h; exact he ρ S (by simp at hl; exact hl ▸ h)
    | cons d es ih =>
      intro n ρ S hk hl h
      rw [o_forN]
      have := hs n d ρ S (by simpa using hk 0) h
      have nx : ∀ ρ2 S2, P (n + 1) ρ2 S2 → WO (forI (gNm i) b es ρ2 S2) k := fun ρ2 S2 p => ih (n + 1) ρ2 S2 (fun k => by
        have := hk (k + 1)
        simp only [List.getElem?_cons_succ] at this
        rw [← this]
        congr 1
        omega) (by simp at hl; omega) p
      cases e : b (ρ.set i (some (d, .sh))) S with
      | nx ρ2 S2 => rw [e] at this; exact nx ρ2 S2 this
      | ct ρ2 S2 => rw [e] at this; exact nx ρ2 S2 this
      | rt r S2 => rw [e] at this; exact this
      | bk ρ2 S2 => rw [e] at this; exact this
      | ex x ρ2 S2 => rw [e] at this; exact this
      | bad => rw [e] at this; exact this
  exact go ds 0 ρ S (fun k => by simp) (by simp) h0
theorem en0 {n : Nat} {rs : List RV} {c : Nat} : entryI (n + 1) c rs = some (.ins c [], .own) :: entry n rs := by
  unfold entryI entry
  rw [Nat.add_sub_add_right]
theorem self_eq {c : Nat} {fs : List (String × D)} {r : Loc} : selfI (some (.ins c fs, .own) :: r) = some (c, fs) := rfl
theorem put_held {d : D} : putN "held" d [] = [("held", d)] := rfl
end DE

set_option maxRecDepth 100000
set_option maxHeartbeats 2000000
namespace DE
open DL
theorem in4 {x p q r t : String} {a b : Fl} {S : Store} : oIn (.str x, a) (.tup [.str p, .str q, .str r, .str t], b) S = some (.bl (p == x || (q == x || (r == x || t == x))), .sh) := by simp [oIn, oInG, view, inSeq, plain, plains, dep, memD, deq, Bool.or_assoc]
theorem cut21h {α : Type} {x y : α} : cutD [x, y] none (some 1) = [x] := rfl
theorem nq_str {x y : String} {a b : Fl} {S : Store} : oNe (.str x, a) (.str y, b) S = some (.bl (!(x == y)), .sh) := by simp [oNe, view, plain, dep, deq]
theorem nin2 {x p q : String} {a b : Fl} {S : Store} : oNotIn (.str x, a) (.tup [.str p, .str q], b) S = some (.bl (!(p == x || q == x)), .sh) := by simp [oNotIn, oInG, view, inSeq, plain, plains, dep, memD, deq]
section
variable {ρ : Loc} {S : Store} {Q : RV → Store → Prop}
theorem sum_ints {l : List Int} {a : Fl} {S : Store} : oSum (.lst (l.map D.int), a) S = some (.int l.sum, .sh) := by
  simp [oSum, intsOf, view, lstOf, intsD_map]
theorem w_ans {t : R RV} : WR (match t with
      | .ok r S3 => .ok r S3
      | _ => .bad) Q = WR t Q := by cases t <;> rfl
theorem w_eqO {F : SF} {okc : Nat → Bool} {okt : String → Bool} {f u : SE} : WR (sEqO F okc okt f u ρ S) Q = WR (f ρ S) fun a S1 => WR (u ρ S1) fun b S2 => ∃ p, asIns a.1 = some p ∧ (okc p.1 = true ∧ okD okc okt (view S2 b.1) = true) ∧ WR (F [(a.1, lend a.2), (b.1, lend b.2)] S2) Q := by
  unfold sEqO
  simp only [w_bind]
  refine congrArg (WR _) (funext fun a => funext fun S1 => ?_)
  refine congrArg (WR _) (funext fun b => funext fun S2 => ?_)
  cases e : a.1 with
  | ins c fs =>
    simp only [w_iteB, asIns, Option.some.injEq, exists_eq_left']
    exact congrArg (And _) w_ans
  | _ => simp [asIns, w_bad]
def notR : RV → Option RV
  | (.bl k, _) => some (.bl (!k), .sh)
  | _ => none
theorem w_not2 {t : R RV} : WR (match t with
      | .ok (.bl k, _) S3 => .ok (.bl (!k), .sh) S3
      | _ => .bad) Q = WR t fun r S' => ∃ q, notR r = some q ∧ Q q S' := by
  cases t with
  | ok r S' =>
    obtain ⟨d, fl⟩ := r
    cases d with
    | bl k =>
      show Q (.bl (!k), .sh) S' = ∃ q, some (.bl (!k), .sh) = some q ∧ Q q S'
      simp only [Option.some.injEq, exists_eq_left']
    | _ => simp [notR, w_bad, w_ok]
  | _ => rfl
theorem w_neO {F : SF} {okc : Nat → Bool} {okt : String → Bool} {f u : SE} : WR (sNeO F okc okt f u ρ S) Q = WR (f ρ S) fun a S1 => WR (u ρ S1) fun b S2 => ∃ p, asIns a.1 = some p ∧ (okc p.1 = true ∧ okD okc okt (view S2 b.1) = true) ∧ WR (F [(a.1, lend a.2), (b.1, lend b.2)] S2) fun r S' => ∃ q, notR r = some q ∧ Q q S' := by
  unfold sNeO
  simp only [w_bind]
  refine congrArg (WR _) (funext fun a => funext fun S1 => ?_)
  refine congrArg (WR _) (funext fun b => funext fun S2 => ?_)
  cases e : a.1 with
  | ins c fs =>
    simp only [w_iteB, asIns, Option.some.injEq, exists_eq_left']
    exact congrArg (And _) w_not2
  | _ => simp [asIns, w_bad]
theorem notR_bl {k : Bool} {fl : Fl} : notR (.bl k, fl) = some (.bl (!k), .sh) := rfl
theorem w_dictE : WR (sDict0 ρ S) Q = Q (.dk [], .own) S := rfl
def asLst (d : D) : Option (List D) := match d with
  | .lst ds => some ds
  | _ => none
theorem asLst_lst {ds : List D} : asLst (.lst ds) = some ds := rfl
theorem w_appO {f : SE} {fs : SA} : WR (sAppO f fs ρ S) Q = WR (f ρ S) fun o S1 => ∃ n, asObj o.1 = some n ∧ (∃ l0, (S1[n]?).bind asLst = some l0) ∧ WR (fs ρ S1) fun is S2 => ∃ r, one is = some r ∧ ∃ ds, (S2[n]?).bind asLst = some ds ∧ (leakOk r = true ∧ ds.length < PySem.sizeLine) ∧ Q (.non, .sh) (S2.set n (.lst (ds ++ [r.1]))) := by
  unfold sAppO
  simp only [w_bind]
  refine congrArg (WR _) (funext fun o => funext fun S1 => ?_)
  cases e : o.1 with
  | obj n =>
    simp only [asObj, Option.some.injEq, exists_eq_left']
    cases e1 : S1[n]? with
    | none => simp [w_bad]
    | some d =>
      cases d with
      | lst l0 =>
        simp only [w_bind, Option.bind_some, asLst, Option.some.injEq, exists_eq', true_and]
        refine congrArg (WR _) (funext fun is => funext fun S2 => ?_)
        match is with
        | [] => simp [one, w_bad]
        | [r] =>
          simp only [one, Option.some.injEq, exists_eq_left']
          cases e2 : S2[n]? with
          | none => simp [w_bad]
          | some d =>
            cases d with
            | lst ds =>
              simp only [Option.bind_some, asLst, Option.some.injEq, exists_eq_left', w_iteB]
              rfl
            | _ => simp [w_bad, asLst]
        | _ :: _ :: _ => simp [one, w_bad]
      | _ => simp [w_bad, asLst]
  | _ => simp [asObj, w_bad]
end
end DE

set_option maxRecDepth 100000
set_option maxHeartbeats 2000000
namespace DE
open DL
section
variable {ρ : Loc} {S : Store} {Q : RV → Store → Prop} {k : Ks}
theorem w_callY {np : Nat} {F : SF} {drs : List RV} {fs : SA} : WR (sCallY np F drs fs ρ S) Q = WR (fs ρ S) fun rs S1 => (rs ++ drs).length = np ∧ WR (F (rs ++ drs) S1) Q := by
  unfold sCallY; simp only [w_bind, w_iteB]
theorem w_makeY {np : Nat} {F : SF} {drs : List RV} {fs : SA} : WR (sMakeY np F drs fs ρ S) Q = WR (fs ρ S) fun rs S1 => (rs ++ drs).length + 1 = np ∧ WR (F (rs ++ drs) S1) Q := by
  unfold sMakeY; simp only [w_bind, w_iteB]
theorem w_meth {np : Nat} {F : SF} {okc : Nat → Bool} {m : String} {f : SE} {drs : List RV} {fs : SA} : WR (sMeth np F okc m f drs fs ρ S) Q = WR (f ρ S) fun r S1 => ∃ p, asIns r.1 = some p ∧ (okc p.1 = true ∧ getN p.2 m = none) ∧ WR (fs ρ S1) fun rs S2 => (rs ++ drs).length + 1 = np ∧ WR (F ((.ins p.1 p.2, lend r.2) :: (rs ++ drs)) S2) Q := by
  unfold sMeth
  simp only [w_bind]
  refine congrArg (WR _) (funext fun r => funext fun S1 => ?_)
  cases e : r.1 <;> simp only [asIns, w_bad, reduceCtorEq, false_and, exists_false, Option.some.injEq, exists_eq_left', w_iteB, w_bind]
theorem w_itemO {F : SF} {okc : Nat → Bool} {f u : SE} : WR (sItemO F okc f u ρ S) Q = WR (f ρ S) fun r S1 => WR (u ρ S1) fun q S2 => ∃ p, asIns r.1 = some p ∧ okc p.1 = true ∧ WR (F [(.ins p.1 p.2, lend r.2), (q.1, lend q.2)] S2) Q := by
  unfold sItemO
  simp only [w_bind]
  refine congrArg (WR _) (funext fun r => funext fun S1 => ?_)
  refine congrArg (WR _) (funext fun q => funext fun S2 => ?_)
  cases e : r.1 <;> simp only [asIns, w_bad, reduceCtorEq, false_and, exists_false, Option.some.injEq, exists_eq_left', w_iteB]
def asStr (d : D) : Option String := match d with
  | .str x => some x
  | _ => none
theorem w_upper {f : SE} : WR (sUpper f ρ S) Q = WR (f ρ S) fun r S1 => ∃ x, asStr r.1 = some x ∧ x.length ≤ 1000 ∧ WR (opt ((strOf (PySem.Txt.upper (s2 x))).map fun y => (.str y, .sh)) S1) Q := by
  unfold sUpper
  simp only [w_bind]
  refine congrArg (WR _) (funext fun r => funext fun S1 => ?_)
  cases e : r.1 <;> simp only [asStr, w_bad, reduceCtorEq, false_and, exists_false, Option.some.injEq, exists_eq_left', w_iteB]
  rename_i x
  cases strOf (PySem.Txt.upper (s2 x)) <;> rfl
theorem asStr_str {x : String} : asStr (.str x) = some x := rfl
def oneB (rs : List RV) : Option Bool := match rs with
  | [(.bl k, _)] => some k
  | _ => none
theorem oneB_eq {b : Bool} {fl : Fl} : oneB [(.bl b, fl)] = some b := rfl
theorem w_cntB {f : SE} {fs : SA} : WR (sCntB f fs ρ S) Q = WR (f ρ S) fun r S1 => ∃ bs, blsOf r S1 = some bs ∧ WR (fs ρ S1) fun rs S2 => ∃ b, oneB rs = some b ∧ blsOf r S2 = some bs ∧ Q (.int (bs.count b : Nat), .sh) S2 := by
  unfold sCntB
  simp only [w_bind]
  refine congrArg (WR _) (funext fun r => funext fun S1 => ?_)
  cases e : blsOf r S1 with
  | none => simp [w_bad]
  | some bs =>
    simp only [w_bind, Option.some.injEq, exists_eq_left']
    refine congrArg (WR _) (funext fun rs => funext fun S2 => ?_)
    unfold oneB
    split
    · simp only [w_iteB, w_ok, Option.some.injEq, exists_eq_left']
    · simp [w_bad]
theorem w_idxB {f : SE} {fs : SA} : WR (sIdxB f fs ρ S) Q = WR (f ρ S) fun r S1 => ∃ bs, blsOf r S1 = some bs ∧ WR (fs ρ S1) fun rs S2 => ∃ b, oneB rs = some b ∧ (blsOf r S2 = some bs ∧ b ∈ bs) ∧ Q (.int (bs.idxOf b : Nat), .sh) S2 := by
  unfold sIdxB
  simp only [w_bind]
  refine congrArg (WR _) (funext fun r => funext fun S1 => ?_)
  cases e : blsOf r S1 with
  | none => simp [w_bad]
  | some bs =>
    simp only [w_bind, Option.some.injEq, exists_eq_left']
    refine congrArg (WR _) (funext fun rs => funext fun S2 => ?_)
    unfold oneB
    split
    · simp only [w_iteB, w_ok, Option.some.injEq, exists_eq_left']
    · simp [w_bad]
theorem w_lstRg1 {f : SE} : WR (sLstRg1 f ρ S) Q = WR (f ρ S) fun r S1 => ∃ n, asInt r.1 = some n ∧ (n ≤ 16777216 ∧ -(2 ^ 62) ≤ n) ∧ Q (.lst (rngD 0 (n - 0).toNat), .own) S1 := by
  unfold sLstRg1
  simp only [w_bind]
  refine congrArg (WR _) (funext fun r => funext fun S1 => ?_)
  cases e : r.1 <;> simp only [asInt, w_bad, reduceCtorEq, false_and, exists_false, Option.some.injEq, exists_eq_left', w_iteB, w_ok]
theorem w_tupRg1 {f : SE} : WR (sTupRg1 f ρ S) Q = WR (f ρ S) fun r S1 => ∃ n, asInt r.1 = some n ∧ (n ≤ 16777216 ∧ -(2 ^ 62) ≤ n) ∧ Q (.tup (rngD 0 (n - 0).toNat), .sh) S1 := by
  unfold sTupRg1
  simp only [w_bind]
  refine congrArg (WR _) (funext fun r => funext fun S1 => ?_)
  cases e : r.1 <;> simp only [asInt, w_bad, reduceCtorEq, false_and, exists_false, Option.some.injEq, exists_eq_left', w_iteB, w_ok]
theorem w_bodyY {n : Nat} {b : SS} {rs : List RV} : WR (bodyY n b rs S) Q = WO (b (entry n rs) S) { N := fun _ S' => Q (.non, .sh) S', R := Q, B := fun _ _ => False, C := fun _ _ => False } := by
  unfold bodyY
  cases b (entry n rs) S <;> rfl
theorem w_initY {n c : Nat} {b : SS} {rs : List RV} : WR (initY n c b rs S) Q = WO (b (entryI n c rs) S) { N := fun ρ S' => ∃ p, selfI ρ = some p ∧ Q (.ins p.1 p.2, .own) S', R := fun _ _ => False, B := fun _ _ => False, C := fun _ _ => False } := by
  unfold initY
  cases b (entryI n c rs) S with
  | nx ρ S' =>
    unfold selfI
    rw [o_nx]
    dsimp only
    split
    · rename_i h
      simp only [h, w_ok, Option.some.injEq, exists_eq_left']
    · rename_i h
      refine propext ⟨fun q => q.elim, ?_⟩
      rintro ⟨p, e, _⟩
      first
        | (cases e; done)
        | (split at e
           · rename_i h2
             exact absurd h2 (h _ _)
           · cases e)
  | _ => rfl
/-! what is raised -/
theorem body_ex {n : Nat} {b : SS} {rs : List RV} {S S' : Store} {x : D} {ρ : Loc} (h : b (entry n rs) S = .ex x ρ S') : bodyY n b rs S = .exc x S' := by simp [bodyY, h]
theorem init_ex {n c : Nat} {b : SS} {rs : List RV} {S S' : Store} {x : D} {ρ : Loc} (h : b (entryI n c rs) S = .ex x ρ S') : initY n c b rs S = .exc x S' := by simp [initY, h]
theorem seq_ex {s t : SS} {ρ ρ' : Loc} {S S1 : Store} {x : D} (h : s ρ S = .ex x ρ' S1) : sSeq s t ρ S = .ex x ρ' S1 := by simp [sSeq, h]
theorem drop_ex {f : SE} {ρ : Loc} {S S1 : Store} {x : D} (h : f ρ S = .exc x S1) : sDrop f ρ S = .ex x ρ S1 := by simp [sDrop, goS, R.go, h]
theorem set_ex {i : Nat} {f : SE} {ρ : Loc} {S S1 : Store} {x : D} (h : f ρ S = .exc x S1) : sSet i f ρ S = .ex x ρ S1 := by simp [sSet, goS, R.go, h]
theorem drop_nx {f : SE} {ρ : Loc} {S S1 : Store} {r : RV} (h : f ρ S = .ok r S1) : sDrop f ρ S = .nx ρ S1 := by simp [sDrop, goS, R.go, h]
theorem try_nx {em : Nat → Option Bool} {i j : Nat} {body : SS} {ρ ρ1 : Loc} {S S1 : Store} (h : body ρ S = .nx ρ1 S1) : sTryK em i j body ρ S = .nx ρ1 S1 := by simp [sTryK, h]
theorem try_ex {em : Nat → Option Bool} {i j : Nat} {body : SS} {ρ ρ1 : Loc} {S S1 : Store} {c : Nat} {fs : List (String × D)} (h : body ρ S = .ex (.exc c fs) ρ1 S1) (he : em c = some true) : sTryK em i j body ρ S = .nx ((ρ1.set j (some (.exc c fs, .sh))).set i none) S1 := by simp [sTryK, h, he]
end
theorem WO.of {o : O} {k : Ks} {ρ : Loc} {S : Store} (e : o = .nx ρ S) (h : k.N ρ S) : WO o k := by subst e; exact h
theorem revT_eq {x : List D} {a : Fl} {S : Store} : oRevT (.tup x, a) S = some (.tup x.reverse, .sh) := rfl
/-- a walk of a comprehension that keeps some of what it walks -/
theorem lc_keep {A : Type} {i : Nat} {c : ST} {f : SE} {ρ : Loc} {S : Store} (e g : A → D) (p : A → Bool) : ∀ (l : List A), (∀ a ∈ l, c (ρ.set i (some (e a, .sh))) S = .ok (p a) S ∧ ∃ fl, f (ρ.set i (some (e a, .sh))) S = .ok (g a, fl) S ∧ leakOk (g a, fl) = true) → lcI (gNm i) c f ρ (l.map e) S = .ok ((l.filter p).map g) S
  | [], _ => rfl
  | a :: l, h => by
    obtain ⟨h1, fl, h2, h3⟩ := h a List.mem_cons_self
    have ih := lc_keep e g p l fun b hb => h b (List.mem_cons_of_mem _ hb)
    rw [List.map_cons, lcI]
    simp only [gNm, h1, R.go]
    by_cases hk : p a = true
    · rw [if_pos hk]
      simp only [h2, R.go, h3, if_true, ih, List.filter_cons, hk, List.map_cons]
    · rw [if_neg hk, ih]
      simp [List.filter_cons, hk]
theorem lc_keepD {i : Nat} {c : ST} {f : SE} {ρ : Loc} {S : Store} (p : D → Bool) (l : List D) (h : ∀ d ∈ l, c (ρ.set i (some (d, .sh))) S = .ok (p d) S ∧ ∃ fl, f (ρ.set i (some (d, .sh))) S = .ok (d, fl) S ∧ leakOk (d, fl) = true) : lcI (gNm i) c f ρ l S = .ok (l.filter p) S := by
  have := lc_keep (S := S) (ρ := ρ) (i := i) (c := c) (f := f) id id p l h
  simpa using this
end DE

set_option maxRecDepth 100000
set_option maxHeartbeats 2000000
/-! What the newer statements come to. -/
namespace DE
open DL
section
variable {ρ : Loc} {S : Store} {Q : RV → Store → Prop} {k : Ks}
theorem w_tupF {fs : SA} : WR (sTupF fs ρ S) Q = WR (fs ρ S) fun rs S1 => (rs.all leakOk = true ∧ rs.length ≤ PySem.sizeLine) ∧ Q (.ftp (rs.map (·.1)), .sh) S1 := by
  unfold sTupF; simp only [w_bind, w_iteB, w_ok]
theorem seqOf_ftp {ds : List D} {fl : Fl} : seqOf (.ftp ds, fl) = some ds := rfl
/-- x += e -/
theorem o_aug {op : RV → RV → Store → Option RV} {i : Nat} {f : SE} {d : D} (h : ρ[i]? = some (some (d, .sh))) : WO (sAug op i f ρ S) k = WR (f ρ S) fun r S1 => WR (opt (op (d, .sh) r S1) S1) fun q S2 => leakOk q = true ∧ k.N (ρ.set i (some (q.1, .sh))) S2 := by
  unfold sAug
  rw [h]
  simp only [w_goS, o_iteB]
  rfl
theorem o_augL {i n : Nat} {f : SE} (h : ρ[i]? = some (some (.obj n, .sh))) (q : WR (f ρ S) fun r S1 => ∃ es ds, r.1 = .lst es ∧ S1[n]? = some (.lst ds) ∧ ds.length + es.length ≤ PySem.sizeLine ∧ k.N ρ (S1.set n (.lst (ds ++ es)))) : WO (sAugL i f ρ S) k := by
  unfold sAugL
  rw [h]
  show WO (goS (f ρ S) ρ _) k
  rw [w_goS]
  refine q.mono ?_
  rintro r S1 ⟨es, ds, e1, e2, e3, e4⟩
  rw [e1, e2]
  show WO (if _ then _ else _) k
  rw [if_pos e3]
  exact e4
theorem o_putA {fo fk fv : SE} (q : WR (fv ρ S) fun v S1 => WR (fo ρ S1) fun o S2 => WR (fk ρ S2) fun y S3 => ∃ n kvs, o.1 = .obj n ∧ leakOk v = true ∧ kvs.length < PySem.sizeLine ∧
    ((S3[n]? = some (.dk kvs) ∧ (dKey y.1).isSome = true ∧ k.N ρ (S3.set n (.dk (setK kvs y.1 v.1)))) ∨ (S3[n]? = some (.dt kvs) ∧ keyP y.1 = true ∧ k.N ρ (S3.set n (.dt (setK kvs y.1 v.1)))))) : WO (sPutA fo fk fv ρ S) k := by
  unfold sPutA
  rw [w_goS]
  refine q.mono ?_
  intro v S1 q
  rw [w_goS]
  refine q.mono ?_
  intro o S2 q
  rw [w_goS]
  refine q.mono ?_
  rintro y S3 ⟨n, kvs, e, lk, hz, h⟩
  rw [e]
  rcases h with ⟨e2, hk, h⟩ | ⟨e2, hk, h⟩
  · simp only [e2]
    rw [if_pos ⟨lk, hk, hz⟩]
    exact h
  · simp only [e2]
    rw [if_pos ⟨lk, hk, hz⟩]
    exact h
/-- while, by what holds between the turns and how many are left -/
theorem o_whileP {t : DL.ST} {b : SS} (P : Nat → Loc → Store → Prop) (step : ∀ m ρ S, P m ρ S → WR (t ρ S) fun c S1 => if c = true then ∃ m', m = m' + 1 ∧ WO (b ρ S1) { N := P m', R := k.R, B := k.N, C := P m' } else k.N ρ S1) :
    ∀ {m : Nat} {ρ : Loc} {S : Store}, P m ρ S → WO (sWhile t b ρ S) k := by
  have go : ∀ (m : Nat) (ρ : Loc) (S : Store), P m ρ S → WO (whileI t b (m + 1) ρ S) k := by
    intro m
    induction m with
    | zero =>
      intro ρ S p
      rw [whileI, w_goS]
      refine (step 0 ρ S p).mono ?_
      intro c S1 q
      cases c with
      | true =>
        rw [if_pos rfl] at q
        obtain ⟨m', e, _⟩ := q
        omega
      | false => exact q
    | succ m ih =>
      intro ρ S p
      rw [whileI, w_goS]
      refine (step (m + 1) ρ S p).mono ?_
      intro c S1 q
      cases c with
      | false => exact q
      | true =>
        rw [if_pos rfl] at q ⊢
        obtain ⟨m', e, q⟩ := q
        have : m' = m := by omega
        subst this
        cases e2 : b ρ S1 with
        | nx ρ2 S2 => rw [e2] at q; exact ih ρ2 S2 q
        | ct ρ2 S2 => rw [e2] at q; exact ih ρ2 S2 q
        | rt r S2 => rw [e2] at q; exact q
        | bk ρ2 S2 => rw [e2] at q; exact q
        | ex x ρ2 S2 => rw [e2] at q; exact q.elim
        | bad => rw [e2] at q; exact q.elim
  intro m ρ S p
  have q := go m ρ S p
  have nb : whileI t b (m + 1) ρ S ≠ .bad := fun e => by rw [e] at q; exact q
  rw [sWhile_of nb]
  exact q
/-- for, whatever is bound -/
theorem o_forG {t : Tgt} {b : SS} (P : Nat → Loc → Store → Prop) {ds : List D} {ρ : Loc} {S : Store} (h0 : P 0 ρ S) (hs : ∀ n d ρ S, ds[n]? = some d → P n ρ S → ∃ ρ1, t d ρ = some ρ1 ∧ WO (b ρ1 S) { N := P (n + 1), R := k.R, B := k.N, C := P (n + 1) }) (he : ∀ ρ S, P ds.length ρ S → k.N ρ S) :
    WO (forI t b ds ρ S) k := by
  have go : ∀ (es : List D) n ρ S, (∀ j, ds[n + j]? = es[j]?) → n + es.length = ds.length → P n ρ S → WO (forI t b es ρ S) k := by
    intro es
    induction es with
    | nil => intro n ρ S _ hl h; exact he ρ S (by simp at hl; exact hl ▸ h)
    | cons d es ih =>
      intro n ρ S hk hl h
      rw [o_for1]
      obtain ⟨ρ1, e1, q⟩ := hs n d ρ S (by simpa using hk 0) h
      have nx : ∀ ρ2 S2, P (n + 1) ρ2 S2 → WO (forI t b es ρ2 S2) k := fun ρ2 S2 p => ih (n + 1) ρ2 S2 (fun j => by
        have := hk (j + 1)
        simp only [List.getElem?_cons_succ] at this
        rw [← this]
        congr 1
        omega) (by simp at hl; omega) p
      refine ⟨ρ1, e1, ?_⟩
      cases e : b ρ1 S with
      | nx ρ2 S2 => rw [e] at q; exact nx ρ2 S2 q
      | ct ρ2 S2 => rw [e] at q; exact nx ρ2 S2 q
      | rt r S2 => rw [e] at q; exact q
      | bk ρ2 S2 => rw [e] at q; exact q
      | ex x ρ2 S2 => rw [e] at q; exact q
      | bad => rw [e] at q; exact q
  exact go ds 0 ρ S (fun j => by simp) (by simp) h0
/-- for over a named list -/
theorem o_forOG {n : Nat} {t : Tgt} {b : SS} (P : Nat → Loc → Store → Prop) {ds : List D} {ρ : Loc} {S : Store} (h0 : P 0 ρ S) (inv : ∀ j ρ S, P j ρ S → S[n]? = some (.lst ds)) (hs : ∀ j d ρ S, ds[j]? = some d → P j ρ S → ∃ ρ1, t d ρ = some ρ1 ∧ WO (b ρ1 S) { N := P (j + 1), R := k.R, B := k.N, C := P (j + 1) }) (he : ∀ ρ S, P ds.length ρ S → k.N ρ S) :
    WO (forO n ds t b ds ρ S) k := by
  have go : ∀ (es : List D) j ρ S, (∀ i, ds[j + i]? = es[i]?) → j + es.length = ds.length → P j ρ S → WO (forO n ds t b es ρ S) k := by
    intro es
    induction es with
    | nil =>
      intro j ρ S _ hl h
      rw [forO, if_pos (inv j ρ S h)]
      exact he ρ S (by simp at hl; exact hl ▸ h)
    | cons d es ih =>
      intro j ρ S hk hl h
      rw [forO, if_pos (inv j ρ S h)]
      obtain ⟨ρ1, e1, q⟩ := hs j d ρ S (by simpa using hk 0) h
      rw [e1]
      dsimp only
      have nx : ∀ ρ2 S2, P (j + 1) ρ2 S2 → WO (forO n ds t b es ρ2 S2) k := fun ρ2 S2 p => ih (j + 1) ρ2 S2 (fun i => by
        have := hk (i + 1)
        simp only [List.getElem?_cons_succ] at this
        rw [← this]
        congr 1
        omega) (by simp at hl; omega) p
      cases e : b ρ1 S with
      | nx ρ2 S2 => rw [e] at q; exact nx ρ2 S2 q
      | ct ρ2 S2 => rw [e] at q; exact nx ρ2 S2 q
      | rt r S2 => rw [e] at q; exact q
      | bk ρ2 S2 => rw [e] at q; exact q
      | ex x ρ2 S2 => rw [e] at q; exact q
      | bad => rw [e] at q; exact q
  exact go ds 0 ρ S (fun j => by simp) (by simp) h0
theorem o_forO {f : SE} {t : Tgt} {b : SS} (q : WR (f ρ S) fun r S1 => ∃ n ds, r.1 = .obj n ∧ S1[n]? = some (.lst ds) ∧ WO (forO n ds t b ds ρ S1) k) : WO (sForO f t b ρ S) k := by
  unfold sForO
  rw [w_goS]
  refine q.mono ?_
  rintro r S1 ⟨n, ds, e1, e2, h⟩
  rw [e1]
  simp only [e2]
  exact h
/-- a walk of a comprehension, whatever is bound -/
theorem lc_mapG {A : Type} {t : Tgt} {f : SE} {ρ : Loc} {S : Store} (e g : A → D) : ∀ (l : List A), (∀ a ∈ l, ∃ ρ1 fl, t (e a) ρ = some ρ1 ∧ f ρ1 S = .ok (g a, fl) S ∧ leakOk (g a, fl) = true) → lcI t sYes f ρ (l.map e) S = .ok (l.map g) S
  | [], _ => rfl
  | a :: l, h => by
    obtain ⟨ρ1, fl, h1, h2, h3⟩ := h a List.mem_cons_self
    have ih := lc_mapG e g l fun b hb => h b (List.mem_cons_of_mem _ hb)
    rw [List.map_cons, lcI]
    simp only [h1, sYes, R.go, if_true, h2, h3, ih, List.map_cons]
end
end DE

set_option maxRecDepth 100000
namespace DE
open DL
section
variable {ρ : Loc} {S : Store} {Q : RV → Store → Prop}
theorem w_callI {np : Nat} {F : SF} {okc : Nat → Bool} {f : SE} {fs : SA} : WR (sCallI np F okc f fs ρ S) Q = WR (f ρ S) fun r S1 => ∃ p, asIns r.1 = some p ∧ okc p.1 = true ∧ WR (fs ρ S1) fun rs S2 => rs.length + 1 = np ∧ WR (F ((.ins p.1 p.2, lend r.2) :: rs) S2) Q := by
  unfold sCallI; rw [w_bind]; congr 1; funext r S1
  obtain ⟨d, fl⟩ := r
  cases d with
  | ins c gs =>
    simp only [asIns, Option.some.injEq, exists_eq_left', w_iteB, w_bind]
  | _ => simp only [asIns, reduceCtorEq, false_and, exists_false]; rfl
def asExc (d : D) : Option (Nat × List (String × D)) := match d with
  | .exc c fs => some (c, fs)
  | _ => none
theorem w_fldX {x : String} {okx : Nat → Bool} {f : SE} : WR (sFldX x okx f ρ S) Q = WR (f ρ S) fun r S1 => ∃ p, asExc r.1 = some p ∧ okx p.1 = true ∧ WR (opt ((getN p.2 x).map fun d => (d, .sh)) S1) Q := by
  unfold sFldX; rw [w_bind]; congr 1; funext r S1
  obtain ⟨d, fl⟩ := r
  cases d with
  | exc c gs =>
    simp only [asExc, Option.some.injEq, exists_eq_left', w_iteB]
    cases getN gs x <;> rfl
  | _ => simp only [asExc, reduceCtorEq, false_and, exists_false]; rfl
theorem o_cont {k : Ks} : WO (sCont ρ S) k = k.C ρ S := rfl
theorem WO_monoN {o : O} {k : Ks} {P : Loc → Store → Prop} (h : WO o { k with N := P }) (i : ∀ ρ S, P ρ S → k.N ρ S) : WO o k := by
  cases o with
  | nx ρ S => exact i _ _ h
  | _ => exact h
/-- one statement, by what holds behind it -/
theorem o_seqP {s t : SS} {k : Ks} (P : Loc → Store → Prop) (h1 : WO (s ρ S) { k with N := P }) (h2 : ∀ ρ1 S1, P ρ1 S1 → WO (t ρ1 S1) k) : WO (sSeq s t ρ S) k := by
  rw [o_seq]
  exact WO_monoN (k := { k with N := fun ρ1 S1 => WO (t ρ1 S1) k }) h1 h2
end
end DE

set_option maxRecDepth 100000
set_option maxHeartbeats 2000000
/-! repr of plain values is a text -/
namespace DE
open DL PySem
def VS (x : Str) : Prop := ∀ c ∈ x.cps.toList, Nat.isValidChar c
theorem vs_s2 (y : String) : VS (s2 y) := by
  intro c hc
  rw [s2_cps] at hc
  simp only [List.mem_map] at hc
  obtain ⟨d, _, rfl⟩ := hc
  exact d.valid
theorem vs_ex {x : Str} (h : VS x) : ∃ y, s2 y = x := by
  refine ⟨String.ofList (x.cps.toList.map Char.ofNat), ?_⟩
  have : (s2 (String.ofList (x.cps.toList.map Char.ofNat))).cps = x.cps := by
    rw [s2_cps, String.toList_ofList, List.map_map]
    have e : x.cps.toList.map (Char.toNat ∘ Char.ofNat) = x.cps.toList := by
      conv => rhs; rw [← List.map_id x.cps.toList]
      refine List.map_congr_left fun c hc => ?_
      have hv := h c hc
      simp only [Function.comp, id]
      unfold Char.ofNat
      rw [dif_pos hv]
      rfl
    rw [e]
  cases x with
  | mk c => 
    cases hs : s2 (String.ofList (c.toList.map Char.ofNat)) with
    | mk d => rw [hs] at this; simp only at this; rw [this]
theorem vs_app {x y : Str} (h : VS x) (k : VS y) : VS (x ++ y) := by
  intro c hc
  rw [show (x ++ y).cps = x.cps ++ y.cps from rfl] at hc
  simp only [Array.toList_append, List.mem_append] at hc
  exact hc.elim (h c) (k c)
theorem vs_join {s : Str} (hs : VS s) : ∀ {ts : List Str}, (∀ t ∈ ts, VS t) → VS (Str.join s ts)
  | [], _ => by intro c hc; cases hc
  | [t], h => h t List.mem_cons_self
  | t :: u :: r, h => by
    show VS (t ++ s ++ Str.join s (u :: r))
    exact vs_app (vs_app (h t List.mem_cons_self) hs) (vs_join hs fun v hv => h v (List.mem_cons_of_mem _ hv))
theorem vs_from : ∀ {ts : List Str} {k : Nat} {acc : Str}, VS acc → (∀ t ∈ ts, VS t) → VS (textFrom k acc ts)
  | [], _, _, h, _ => h
  | t :: ts, k, acc, h, ht => by
    show VS (textFrom (k + 1) (acc ++ (if k > 0 then ", " else "" : String) ++ t) ts)
    refine vs_from (vs_app (vs_app h ?_) (ht t List.mem_cons_self)) fun v hv => ht v (List.mem_cons_of_mem _ hv)
    exact vs_s2 _
theorem valid_small {c : Nat} (h : c < 55296) : Nat.isValidChar c := .inl h
theorem vs_char {q c : Nat} (hc : Nat.isValidChar c) : ∀ d ∈ Builtin.Str.reprChar q c, Nat.isValidChar d := by
  intro d hd
  have hex : ∀ w, d ∈ (List.replicate (w - ((Nat.toDigits 16 c).map Char.toNat).length) 48 ++ (Nat.toDigits 16 c).map Char.toNat) → Nat.isValidChar d := by
    intro w h
    rcases List.mem_append.mp h with h | h
    · rw [List.eq_of_mem_replicate h]; exact valid_small (by decide)
    · obtain ⟨e, _, rfl⟩ := List.mem_map.mp h
      exact e.valid
  unfold Builtin.Str.reprChar at hd
  dsimp only at hd
  repeat' split at hd
  all_goals first
    | (simp only [List.mem_cons, List.not_mem_nil, or_false] at hd; rcases hd with rfl | rfl <;> first | exact hc | exact valid_small (by decide))
    | (simp only [List.mem_cons, List.not_mem_nil, or_false] at hd; subst hd; exact hc)
    | (simp only [List.cons_append, List.nil_append, List.mem_cons] at hd; rcases hd with rfl | rfl | hd <;> first | exact valid_small (by decide) | exact hex _ hd)
theorem vs_fold (q : Nat) : ∀ (l : List Nat) (acc : Array Nat), (∀ c ∈ l, Nat.isValidChar c) → (∀ c ∈ acc.toList, Nat.isValidChar c) → ∀ c ∈ (l.foldl (fun out c => out ++ (Builtin.Str.reprChar q c).toArray) acc).toList, Nat.isValidChar c
  | [], acc, _, h => h
  | c :: r, acc, hl, h => by
    simp only [List.foldl_cons]
    refine vs_fold q r _ (fun d hd => hl d (List.mem_cons_of_mem _ hd)) fun d hd => ?_
    simp only [Array.toList_append, List.mem_append] at hd
    exact hd.elim (h d) (vs_char (hl c List.mem_cons_self) d)
theorem vs_repr {x : Str} (h : VS x) : VS (reprText x) := by
  have hq : Nat.isValidChar (reprQuote x) := by unfold reprQuote; split <;> exact valid_small (by decide)
  intro c hc
  unfold reprText at hc
  simp only [Array.toList_push, List.mem_append, List.mem_singleton] at hc
  rcases hc with hc | rfl
  · rw [← Array.foldl_toList] at hc
    exact vs_fold _ _ _ h (fun d hd => by simp at hd; subst hd; exact hq) c hc
  · exact hq
theorem vs_list {ts : List Str} (h : ∀ t ∈ ts, VS t) : VS (listText ts) := vs_app (vs_from (vs_s2 "[") h) (vs_s2 "]")
theorem vs_tuple {ts : List Str} (h : ∀ t ∈ ts, VS t) : VS (tupleText ts) := vs_app (vs_app (vs_s2 "(") (vs_join (vs_s2 ", ") h)) (by split <;> exact vs_s2 _)
mutual
theorem vs_shown : ∀ d : D, plain d = true → VS (py d).shown
  | .non, _ => by simp only [py, PyData.shown]; exact vs_s2 "None"
  | .bl b, _ => by simp only [py, PyData.shown]; cases b <;> exact vs_s2 _
  | .int i, _ => by simp only [py, PyData.shown]; exact vs_s2 _
  | .str x, _ => by simp only [py, PyData.shown]; exact vs_repr (vs_s2 x)
  | .tup ds, h => by simp only [py, PyData.shown]; exact vs_tuple (vs_all ds (by simpa [DL.plain] using h))
  | .lst ds, h => by simp only [py, PyData.shown]; exact vs_list (vs_all ds (by simpa [DL.plain] using h))
  | .frl _, h => by simp [DL.plain] at h
  | .ftp _, h => by simp [DL.plain] at h
  | .dk _, h => by simp [DL.plain] at h
  | .dt _, h => by simp [DL.plain] at h
  | .ins _ _, h => by simp [DL.plain] at h
  | .exc _ _, h => by simp [DL.plain] at h
  | .obj _, h => by simp [DL.plain] at h
theorem vs_all : ∀ ds : List D, plains ds = true → ∀ t ∈ PyData.shownAll (pys ds), VS t
  | [], _ => fun _ h => by simp [pys, PyData.shownAll] at h
  | d :: ds, h => by
    simp only [plains, Bool.and_eq_true] at h
    intro t ht
    simp only [pys, PyData.shownAll, List.mem_cons] at ht
    rcases ht with rfl | ht
    · exact vs_shown d h.1
    · exact vs_all ds h.2 t ht
end
/-! how long -/
mutual
def lenB : D → Nat
  | .non => 4
  | .bl _ => 5
  | .int _ => 1921
  | .str x => 10 * x.length + 2
  | .tup ds => 3 + lensB ds
  | .lst ds => 2 + lensB ds
  | _ => 0
def lensB : List D → Nat
  | [] => 0
  | d :: ds => lenB d + 2 + lensB ds
end
theorem from_len : ∀ (ts : List Str) (k : Nat) (acc : Str), (textFrom k acc ts).length ≤ acc.length + (ts.map fun t => t.length + 2).sum
  | [], k, acc => by simp [textFrom]
  | t :: r, k, acc => by
    have ih := from_len r (k + 1) (acc ++ (if k > 0 then ", " else "" : String) ++ t)
    have e : (acc ++ (if k > 0 then ", " else "" : String) ++ t).length ≤ acc.length + 2 + t.length := by
      rw [strLen_append, strLen_append]
      have : (Str.ofString (if k > 0 then ", " else "" : String)).length ≤ 2 := by split <;> decide
      omega
    simp only [textFrom, List.map_cons, List.sum_cons]
    omega
theorem join_len : ∀ (ts : List Str), (Str.join ", " ts).length ≤ (ts.map fun t => t.length + 2).sum
  | [] => Nat.zero_le _
  | [t] => by show t.length ≤ _; simp
  | t :: u :: r => by
    have ih := join_len (u :: r)
    show (t ++ ", " ++ Str.join ", " (u :: r)).length ≤ _
    rw [strLen_append, strLen_append]
    have : (", " : Str).length = 2 := rfl
    simp only [List.map_cons, List.sum_cons] at ih ⊢
    omega
theorem valid_lt {c : Nat} (h : Nat.isValidChar c) : c < 16 ^ 8 := by
  rcases h with h | h <;> omega
mutual
theorem len_shown : ∀ d : D, plain d = true → (py d).showable = true → (py d).shown.length ≤ lenB d
  | .non, _, _ => by simp only [py, PyData.shown, lenB]; decide
  | .bl b, _, _ => by simp only [py, PyData.shown, lenB]; cases b <;> decide
  | .int i, _, h => by simp only [py, PyData.shown, lenB]; exact PyProof.Rows.int_text_len_1921 (by simpa [py, PyData.showable] using h)
  | .str x, _, _ => by
    simp only [py, PyData.shown, lenB]
    have := StrLaws.reprText_len (s2 x) fun c hc => valid_lt (vs_s2 x c hc)
    rw [s2_len] at this
    exact this
  | .tup ds, h, hs => by
    have := lens_shown ds (by simpa [DL.plain] using h) (by simpa [py, PyData.showable] using hs)
    have := join_len (PyData.shownAll (pys ds))
    simp only [py, PyData.shown, lenB]
    unfold tupleText
    rw [strLen_append, strLen_append]
    have h1 : ("(" : Str).length = 1 := rfl
    have h2 : (Str.ofString (if (PyData.shownAll (pys ds)).length == 1 then ",)" else ")" : String)).length ≤ 2 := by split <;> decide
    omega
  | .lst ds, h, hs => by
    have := lens_shown ds (by simpa [DL.plain] using h) (by simpa [py, PyData.showable] using hs)
    have := from_len (PyData.shownAll (pys ds)) 0 "["
    simp only [py, PyData.shown, lenB]
    unfold listText
    rw [strLen_append]
    have h1 : ("[" : Str).length = 1 := rfl
    have h2 : ("]" : Str).length = 1 := rfl
    omega
  | .frl _, h, _ => by simp [DL.plain] at h
  | .ftp _, h, _ => by simp [DL.plain] at h
  | .dk _, h, _ => by simp [DL.plain] at h
  | .dt _, h, _ => by simp [DL.plain] at h
  | .ins _ _, h, _ => by simp [DL.plain] at h
  | .exc _ _, h, _ => by simp [DL.plain] at h
  | .obj _, h, _ => by simp [DL.plain] at h
theorem lens_shown : ∀ ds : List D, plains ds = true → PyData.showableAll (pys ds) = true → ((PyData.shownAll (pys ds)).map fun t => t.length + 2).sum ≤ lensB ds
  | [], _, _ => by simp [pys, PyData.shownAll, lensB]
  | d :: ds, h, hs => by
    simp only [plains, Bool.and_eq_true] at h
    simp only [pys, PyData.showableAll, Bool.and_eq_true] at hs
    have a := len_shown d h.1 hs.1
    have b := lens_shown ds h.2 hs.2
    simp only [pys, PyData.shownAll, lensB, List.map_cons, List.sum_cons]
    omega
end
theorem repr_ok {d : D} (h : plain d = true) (hs : (py d).showable = true) (hl : lenB d ≤ 8000000) (hd : dep d ≤ 100) : ∃ y : String, s2 y = (py d).shown ∧ ∀ fl S, oRepr (d, fl) S = some (.str y, .sh) := by
  obtain ⟨y, hy⟩ := vs_ex (vs_shown d h)
  refine ⟨y, hy, fun fl S => ?_⟩
  have v : view S d = d := by cases d <;> first | rfl | (simp [DL.plain] at h)
  have := len_shown d h hs
  have sz : (py d).shown.length ≤ sizeLine := Nat.le_trans (Nat.le_trans this hl) (by decide)
  unfold oRepr
  rw [v, if_pos ⟨h, hs, sz, hd⟩, ← hy, strOf_s2]
  rfl
end DE

set_option maxRecDepth 100000
set_option maxHeartbeats 4000000
namespace K05
open PySem L2 DL
def okP (c : Nat) : Bool := decide (1 ≤ c) && decide (c ≤ 1)
structure Sem where
  i_Script : SF
  scall : SF
  asked : SF
  are_answers : SF
  L_begin : SF
  L_draw : SF
  L_pick : SF
  L_word : SF
  L_kept : SF
  L_kind : SF
  L_answers : SF
  L_made : SF
  L_good : SF
  law : SF
  na : Bool
def okT (t : String) : Bool := decide (t = "int") || decide (t = "bool") || decide (t = "str") || decide (t = "tuple") || decide (t = "list") || decide (t = "dict") || decide (t = "NoneType")
def exL : List Nat := [0, 2, 3, 4, 5, 6, 7, 8, 9]
def pb_ModeError (t : String) : Option Bool := if okT t = true then some false else none
def pc_ModeError (_ : Nat) : Option Bool := none
def px_ModeError (c : Nat) : Option Bool := if c ∈ exL then some (decide (c ∈ ([0, 2, 3, 4, 5, 6, 7, 8, 9] : List Nat))) else none
def pb_NoAnswer (t : String) : Option Bool := if okT t = true then some false else none
def pc_NoAnswer (_ : Nat) : Option Bool := none
def px_NoAnswer (c : Nat) : Option Bool := if c ∈ exL then some (decide (c ∈ ([3] : List Nat))) else none
def pb_NoBook (t : String) : Option Bool := if okT t = true then some false else none
def pc_NoBook (_ : Nat) : Option Bool := none
def px_NoBook (c : Nat) : Option Bool := if c ∈ exL then some (decide (c ∈ ([5] : List Nat))) else none
def pb_NoMachine (t : String) : Option Bool := if okT t = true then some false else none
def pc_NoMachine (_ : Nat) : Option Bool := none
def px_NoMachine (c : Nat) : Option Bool := if c ∈ exL then some (decide (c ∈ ([2] : List Nat))) else none
def pb_NoModes (t : String) : Option Bool := if okT t = true then some false else none
def pc_NoModes (_ : Nat) : Option Bool := none
def px_NoModes (c : Nat) : Option Bool := if c ∈ exL then some (decide (c ∈ ([6] : List Nat))) else none
def pb_NoProgram (t : String) : Option Bool := if okT t = true then some false else none
def pc_NoProgram (_ : Nat) : Option Bool := none
def px_NoProgram (c : Nat) : Option Bool := if c ∈ exL then some (decide (c ∈ ([4] : List Nat))) else none
def pb_NoText (t : String) : Option Bool := if okT t = true then some false else none
def pc_NoText (_ : Nat) : Option Bool := none
def px_NoText (c : Nat) : Option Bool := if c ∈ exL then some (decide (c ∈ ([9] : List Nat))) else none
def pb_Stuck (t : String) : Option Bool := if okT t = true then some false else none
def pc_Stuck (_ : Nat) : Option Bool := none
def px_Stuck (c : Nat) : Option Bool := if c ∈ exL then some (decide (c ∈ ([7] : List Nat))) else none
def pb_TooMany (t : String) : Option Bool := if okT t = true then some false else none
def pc_TooMany (_ : Nat) : Option Bool := none
def px_TooMany (c : Nat) : Option Bool := if c ∈ exL then some (decide (c ∈ ([8] : List Nat))) else none
def pb_ValueError (t : String) : Option Bool := if okT t = true then some false else none
def pc_ValueError (_ : Nat) : Option Bool := none
def px_ValueError (c : Nat) : Option Bool := if c ∈ exL then some (decide (c ∈ ([0, 2, 3, 4, 5, 6, 7, 8, 9] : List Nat))) else none
def pb_bool (t : String) : Option Bool := if t = "int" then some false else if t = "bool" then some true else if t = "str" then some false else if t = "tuple" then some false else if t = "list" then some false else if t = "dict" then some false else if t = "NoneType" then some false else none
def pc_bool (_ : Nat) : Option Bool := none
def pb_tuple (t : String) : Option Bool := if t = "int" then some false else if t = "bool" then some false else if t = "str" then some false else if t = "tuple" then some true else if t = "list" then some false else if t = "dict" then some false else if t = "NoneType" then some false else none
def pc_tuple (_ : Nat) : Option Bool := none
def okX_name (c : Nat) : Bool := decide (c ∈ ([3] : List Nat))
def em_ModeError (c : Nat) : Option Bool := if c ∈ exL then some (decide (c ∈ ([0, 2, 3, 4, 5, 6, 7, 8, 9] : List Nat))) else none
noncomputable def v_i_Script (E : Sem) : SS := (sSeq (sIfS (tOrS (tNotS (sT (sCallY 1 E.are_answers [] (sCons (sVar 1) sNil)))) (tNotS (sT (sIsi (isiP pb_bool pc_bool) (sVar 2)))))
  (sSeq (sRaiseN E.na 3 [("name", .non)])
  sSkip)
  sSkip)
  (sSeq (sFldS "answers" (sVar 1) okP)
  (sSeq (sFldS "rest" (sVar 2) okP)
  (sSeq (sFldS "names" (sNew (sLst sNil)) okP)
  sSkip))))
noncomputable def v_scall (E : Sem) : SS := (sSeq (sSet 2 (sB1 oLen (sFld "names" (sVar 0) okP)))
  (sSeq (sDrop (sAppO (sFld "names" (sVar 0) okP) (sCons (sVar 1) sNil)))
  (sSeq (sRet (sIf (sT (sOp2 oLt (sVar 2) (sB1 oLen (sFld "answers" (sVar 0) okP)))) (sOp2 oIdx (sFld "answers" (sVar 0) okP) (sVar 2)) (sFld "rest" (sVar 0) okP)))
  sSkip)))
noncomputable def v_asked (E : Sem) : SS := (sSeq (sRet (sB1 oLstOf (sFld "names" (sVar 0) okP)))
  sSkip)
noncomputable def v_are_answers (E : Sem) : SS := (sSeq (sRet (sAnd (sIsi (isiP pb_tuple pc_tuple) (sVar 0)) (sB1 oAll (sLc (sSeqI (sVar 0)) (gNm 1) sYes (sIsi (isiP pb_bool pc_bool) (sVar 1)) [1]))))
  sSkip)
noncomputable def v_L_begin (E : Sem) : SS := (sSeq (sSet 1 (sLc (sSeqI (sVar 0)) (gNm 2) sYes (sB1 oAbs (sVar 2)) [2]))
  (sSeq (sRet (sNew (sDict [((sCst (.str "large")), (sNew (sLc (sSeqI (sVar 1)) (gNm 2) (sT (sOp2 oGe (sVar 2) (sOp2 oPow (sCst (.int 10)) (sCst (.int 18))))) (sOp2 oSub (sVar 2) (sOp2 oPow (sCst (.int 10)) (sCst (.int 18)))) [2]))), ((sCst (.str "cells")), (sVar 1)), ((sCst (.str "rest")), (sCst (.int 0))), ((sCst (.str "turn")), (sCst (.int 0)))])))
  sSkip))
noncomputable def v_L_draw (E : Sem) : SS := (sSeq (sWhile (tAndS (sT (sOp2 oEq (sOp2 oDGet (sVar 0) (sCst (.str "rest"))) (sCst (.int 0)))) (sT (sOp2 oNe (sOp2 oDGet (sVar 0) (sCst (.str "large"))) (sLst sNil))))
  (sSeq (sPut (sVar 0) (sCst (.str "rest")) (sPopO (sOp2 oDGet (sVar 0) (sCst (.str "large"))) (sCons (sCst (.int 0)) sNil)))
  sSkip))
  (sSeq (sIfS (sT (sOp2 oGt (sOp2 oDGet (sVar 0) (sCst (.str "rest"))) (sCst (.int 0))))
  (sSeq (sSet 2 (sOp2 oMod (sB1 oInt (sOp2 oDGet (sVar 0) (sCst (.str "rest")))) (sVar 1)))
  (sSeq (sPut (sVar 0) (sCst (.str "rest")) (sOp2 oFdiv (sOp2 oDGet (sVar 0) (sCst (.str "rest"))) (sVar 1)))
  (sSeq (sRet (sVar 2))
  sSkip)))
  sSkip)
  (sSeq (sSet 3 (sOp2 oAdd (sOp2 oDGet (sVar 0) (sCst (.str "turn"))) (sCst (.int 1))))
  (sSeq (sPut (sVar 0) (sCst (.str "turn")) (sVar 3))
  (sSeq (sSet 4 (sIf (sT (sOp2 oNe (sOp2 oDGet (sVar 0) (sCst (.str "cells"))) (sLst sNil))) (sOp2 oIdx (sOp2 oDGet (sVar 0) (sCst (.str "cells"))) (sOp2 oMod (sB1 oInt (sVar 3)) (sB1 oLen (sOp2 oDGet (sVar 0) (sCst (.str "cells")))))) (sCst (.int 0))))
  (sSeq (sSet 5 (sOp2 oMod (sB1 oInt (sOp2 oPow (sOp2 oAdd (sOp2 oAdd (sOp2 oMod (sB1 oInt (sVar 4)) (sCst (.int 2147483629))) (sOp2 oMul (sCst (.int 69621)) (sVar 3))) (sCst (.int 12345))) (sCst (.int 3)))) (sCst (.int 2147483647))))
  (sSeq (sRet (sOp2 oMod (sB1 oInt (sOp2 oFdiv (sOp2 oMod (sB1 oInt (sOp2 oPow (sOp2 oAdd (sVar 5) (sOp2 oMul (sCst (.int 104729)) (sVar 3))) (sCst (.int 5)))) (sCst (.int 2147483587))) (sCst (.int 13)))) (sVar 1)))
  sSkip)))))))
noncomputable def v_L_pick (E : Sem) : SS := (sSeq (sRet (sOp2 oIdx (sVar 1) (sCallY 2 E.L_draw [] (sCons (sVar 0) (sCons (sB1 oLen (sVar 1)) sNil)))))
  sSkip)
noncomputable def v_L_word (E : Sem) : SS := (sSeq (sSet 1 (sCallY 2 E.L_draw [] (sCons (sVar 0) (sCons (sCst (.int 6)) sNil))))
  (sSeq (sIfS (sT (sOp2 oLt (sVar 1) (sCst (.int 3))))
  (sSeq (sRet (sCallY 2 E.L_pick [] (sCons (sVar 0) (sCons (sLst (sCons (sCst (.str "a")) (sCons (sCst (.str "b")) (sCons (sCst (.str "p")) (sCons (sCst (.str "q")) sNil))))) sNil))))
  sSkip)
  sSkip)
  (sSeq (sIfS (sT (sOp2 oEq (sVar 1) (sCst (.int 3))))
  (sSeq (sRet (sCallY 2 E.L_pick [] (sCons (sVar 0) (sCons (sLst (sCons (sCst (.str "asks")) (sCons (sCst (.str "dos")) (sCons (sCst (.str "elsex")) (sCons (sCst (.str "ends")) (sCons (sCst (.str "gone")) (sCons (sCst (.str "iff")) (sCons (sCst (.str "nota")) (sCons (sCst (.str "passe")) (sCons (sCst (.str "row")) (sCons (sCst (.str "on")) (sCons (sCst (.str "yes")) sNil)))))))))))) sNil))))
  sSkip)
  sSkip)
  (sSeq (sSet 2 (sCst (.str "abcdefghijklmnopqrstuvwxyz")))
  (sSeq (sSet 3 (sJoin (sCst (.str "")) (sLc (sRng1 (sCons (sOp2 oAdd (sCst (.int 1)) (sCallY 2 E.L_draw [] (sCons (sVar 0) (sCons (sCst (.int 8)) sNil)))) sNil)) (gNm 4) sYes (sCallY 2 E.L_pick [] (sCons (sVar 0) (sCons (sVar 2) sNil))) [4])))
  (sSeq (sRet (sIf (sT (sOp2 oIn (sVar 3) (sCallY 0 E.L_kept [] sNil))) (sOp2 oAdd (sCst (.str "z")) (sSl (sVar 3) (sPart (sCst (.int 1))) sNoPart)) (sVar 3)))
  sSkip))))))
noncomputable def v_L_kept (E : Sem) : SS := (sSeq (sRet (sLst (sCons (sCst (.str "ask")) (sCons (sCst (.str "do")) (sCons (sCst (.str "else")) (sCons (sCst (.str "end")) (sCons (sCst (.str "go")) (sCons (sCst (.str "if")) (sCons (sCst (.str "not")) (sCons (sCst (.str "pass")) (sCons (sCst (.str "piece")) (sCons (sCst (.str "return")) (sCons (sCst (.str "true")) (sCons (sCst (.str "while")) sNil))))))))))))))
  sSkip)
noncomputable def v_L_kind (E : Sem) : SS := (sSeq (sIfS (sT (sOp2 oIsN (sVar 0) (sCst .non)))
  (sSeq (sRet (sCst (.str "")))
  sSkip)
  sSkip)
  (sSeq (sSet 1 (sLst (sCons (sIsi (isiR pb_NoMachine pc_NoMachine px_NoMachine) (sVar 0)) (sCons (sIsi (isiR pb_NoAnswer pc_NoAnswer px_NoAnswer) (sVar 0)) (sCons (sIsi (isiR pb_NoProgram pc_NoProgram px_NoProgram) (sVar 0)) sNil)))))
  (sSeq (sSet 1 (sOp2 oAdd (sVar 1) (sLst (sCons (sIsi (isiR pb_NoBook pc_NoBook px_NoBook) (sVar 0)) (sCons (sIsi (isiR pb_NoModes pc_NoModes px_NoModes) (sVar 0)) (sCons (sIsi (isiR pb_Stuck pc_Stuck px_Stuck) (sVar 0)) sNil))))))
  (sSeq (sSet 1 (sOp2 oAdd (sVar 1) (sLst (sCons (sIsi (isiR pb_TooMany pc_TooMany px_TooMany) (sVar 0)) (sCons (sIsi (isiR pb_NoText pc_NoText px_NoText) (sVar 0)) sNil)))))
  (sSeq (sSet 2 (sLst (sCons (sCst (.str "NoMachine")) (sCons (sCst (.str "NoAnswer")) (sCons (sCst (.str "NoProgram")) (sCons (sCst (.str "NoBook")) (sCons (sCst (.str "NoModes")) (sCons (sCst (.str "Stuck")) (sCons (sCst (.str "TooMany")) (sCons (sCst (.str "NoText")) sNil))))))))))
  (sSeq (sIfS (tOrS (sT (sOp2 oNe (sCntB (sVar 1) (sCons (sCst (.bl true)) sNil)) (sCst (.int 1)))) (tOrS (tNotS (sT (sIsi (isiR pb_ModeError pc_ModeError px_ModeError) (sVar 0)))) (tNotS (sT (sIsi (isiR pb_ValueError pc_ValueError px_ValueError) (sVar 0))))))
  (sSeq (sRet (sCst (.str "several")))
  sSkip)
  sSkip)
  (sSeq (sRet (sOp2 oIdx (sVar 2) (sIdxB (sVar 1) (sCons (sCst (.bl true)) sNil))))
  sSkip)))))))
noncomputable def v_L_answers (E : Sem) : SS := (sSeq (sRet (sB1 oTupOf (sLc (sRng1 (sCons (sCallY 2 E.L_draw [] (sCons (sVar 0) (sCons (sOp2 oAdd (sVar 1) (sCst (.int 1))) sNil))) sNil)) (gNm 2) sYes (sOp2 oEq (sCallY 2 E.L_draw [] (sCons (sVar 0) (sCons (sCst (.int 2)) sNil))) (sCst (.int 1))) [2])))
  sSkip)
noncomputable def v_L_made (E : Sem) : SS := (sSeq (sAsg (gTp 2 (gAnd (gNm 2) (gAnd (gNm 3) gNo))) (sTup (sCons (sCst .non) (sCons (sCst .non) sNil))))
  (sSeq (sTryK em_ModeError 4 3
  (sSeq (sSet 2 (sMakeY 3 E.i_Script [] (sCons (sVar 0) (sCons (sVar 1) sNil))))
  sSkip))
  (sSeq (sIfS (sT (sOp2 oIsN (sVar 3) (sCst .non)))
  (sSeq (sRet (sVar 2))
  sSkip)
  sSkip)
  (sSeq (sRet (sLst (sCons (sCallY 1 E.L_kind [] (sCons (sVar 3) sNil)) (sCons (sIf (sT (sIsi (isiR pb_NoAnswer pc_NoAnswer px_NoAnswer) (sVar 3))) (sFldX "name" okX_name (sVar 3)) (sCst (.str "none"))) sNil))))
  sSkip))))
noncomputable def v_L_good (E : Sem) : SS := (sSeq (sIfS (tOrS (tNotS (sT (sIsi (isiP pb_tuple pc_tuple) (sVar 0)))) (tNotS (sT (sIsi (isiP pb_bool pc_bool) (sVar 1)))))
  (sSeq (sRet (sCst (.bl false)))
  sSkip)
  sSkip)
  (sSeq (sRet (sOp2 oEq (sLc (sSeqI (sVar 0)) (gNm 2) (tNotS (sT (sIsi (isiP pb_bool pc_bool) (sVar 2)))) (sVar 2) [2]) (sLst sNil)))
  sSkip))
noncomputable def v_law (E : Sem) : SS := (sSeq (sSet 1 (sCallY 1 E.L_begin [] (sCons (sVar 0) sNil)))
  (sSeq (sSet 2 (sMakeY 3 E.i_Script [] (sCons (sTup sNil) (sCons (sCst (.bl false)) sNil))))
  (sSeq (sFor (sRng1 (sCons (sCst (.int 12)) sNil)) (gNm 3)
  (sSeq (sPar 4 5 (sCons (sCallY 2 E.L_answers [] (sCons (sVar 1) (sCons (sCst (.int 12)) sNil))) (sCons (sOp2 oEq (sCallY 2 E.L_draw [] (sCons (sVar 1) (sCons (sCst (.int 2)) sNil))) (sCst (.int 1))) sNil)))
  (sSeq (sSet 6 (sCallY 2 E.L_draw [] (sCons (sVar 1) (sCons (sCst (.int 6)) sNil))))
  (sSeq (sSet 7 (sCallY 2 E.L_pick [] (sCons (sVar 1) (sCons (sLst (sCons (sCst .non) (sCons (sCst (.int 0)) (sCons (sCst (.int 1)) (sCons (sCst (.str "y")) (sCons (sLst sNil) (sCons (sTup sNil) (sCons (sCst (.str "True")) (sCons (sCst (.int 5)) sNil))))))))) sNil))))
  (sSeq (sIfS (sT (sOp2 oEq (sVar 6) (sCst (.int 0))))
  (sSeq (sSet 4 (sOp2 oAdd (sVar 4) (sTup (sCons (sVar 7) sNil))))
  sSkip)
  sSkip)
  (sSeq (sIfS (sT (sOp2 oEq (sVar 6) (sCst (.int 1))))
  (sSeq (sSet 4 (sCallY 2 E.L_pick [] (sCons (sVar 1) (sCons (sLst (sCons (sB1 oLstOf (sVar 4)) (sCons (sVar 7) (sCons (sOp2 oAdd (sVar 4) (sTup (sCons (sTup (sCons (sCst (.bl true)) sNil)) sNil))) sNil)))) sNil))))
  sSkip)
  sSkip)
  (sSeq (sIfS (sT (sOp2 oEq (sVar 6) (sCst (.int 2))))
  (sSeq (sSet 5 (sVar 7))
  sSkip)
  sSkip)
  (sSeq (sSet 8 (sCallY 2 E.L_made [] (sCons (sVar 4) (sCons (sVar 5) sNil))))
  (sSeq (sIfS (tNotS (sT (sCallY 2 E.L_good [] (sCons (sVar 4) (sCons (sVar 5) sNil)))))
  (sSeq (sIfS (sT (sOp2 oNe (sVar 8) (sLst (sCons (sCst (.str "NoAnswer")) (sCons (sCst .non) sNil)))))
  (sSeq (sRet (sCst (.bl false)))
  sSkip)
  sSkip)
  (sSeq sCont
  sSkip))
  sSkip)
  (sSeq (sSet 9 (sLc (sRng1 (sCons (sOp2 oAdd (sB1 oLen (sVar 4)) (sCst (.int 3))) sNil)) (gNm 12) sYes (sCallY 1 E.L_word [] (sCons (sVar 1) sNil)) [12]))
  (sSeq (sSet 10 (sNew (sLst sNil)))
  (sSeq (sFor (sSeqI (sVar 9)) (gNm 11)
  (sSeq (sDrop (sAppO (sVar 10) (sCons (sCallI 2 E.scall okP (sVar 8) (sCons (sVar 11) sNil)) sNil)))
  (sSeq (sIfS (sT (sOp2 (oIsBN true) (sCallI 2 E.scall okP (sVar 2) (sCons (sCst (.str "q")) sNil)) (sCst (.bl false))))
  (sSeq (sRet (sCst (.bl false)))
  sSkip)
  sSkip)
  sSkip)))
  (sSeq (sIfS (tOrS (sT (sOp2 oNe (sB1 oRepr (sVar 10)) (sB1 oRepr (sOp2 oAdd (sB1 oLstOf (sVar 4)) (sOp2 oMul (sLst (sCons (sVar 5) sNil)) (sCst (.int 3))))))) (sT (sOp2 oNe (sProp E.asked okP (sVar 8)) (sVar 9))))
  (sSeq (sRet (sCst (.bl false)))
  sSkip)
  sSkip)
  sSkip)))))))))))))
  (sSeq (sRet (sOp2 oIn (sB1 oSortSet1 (sProp E.asked okP (sVar 2))) (sLst (sCons (sLst sNil) (sCons (sLst (sCons (sCst (.str "q")) sNil)) sNil)))))
  sSkip))))
noncomputable def step (E : Sem) : Sem where
  i_Script := initY 3 1 (v_i_Script E)
  scall := bodyY 3 (v_scall E)
  asked := bodyF 1 (v_asked E)
  are_answers := bodyY 2 (v_are_answers E)
  L_begin := bodyY 3 (v_L_begin E)
  L_draw := bodyY 6 (v_L_draw E)
  L_pick := bodyY 2 (v_L_pick E)
  L_word := bodyY 5 (v_L_word E)
  L_kept := bodyY 0 (v_L_kept E)
  L_kind := bodyY 3 (v_L_kind E)
  L_answers := bodyY 3 (v_L_answers E)
  L_made := bodyY 5 (v_L_made E)
  L_good := bodyY 3 (v_L_good E)
  law := bodyY 13 (v_law E)
  na := true
noncomputable def sem : Nat → Sem
  | 0 => ⟨fun _ _ => .bad, fun _ _ => .bad, fun _ _ => .bad, fun _ _ => .bad, fun _ _ => .bad, fun _ _ => .bad, fun _ _ => .bad, fun _ _ => .bad, fun _ _ => .bad, fun _ _ => .bad, fun _ _ => .bad, fun _ _ => .bad, fun _ _ => .bad, fun _ _ => .bad, false⟩
  | n + 1 => step (sem n)
end K05

set_option maxRecDepth 100000
set_option maxHeartbeats 4000000
namespace K05
open PySem L2 DL
def top (i : Nat) : Stmt := PySem.Challenge.pw_fewmodes_k05_scripts_refused.main.body.getD i (.Pass ⟨0, 0, 0, 0⟩)
abbrev s_i_Script : Stmt := inClass (top 12) 0
abbrev N_i_Script : List Str := ["self", "answers", "rest"]
abbrev p_i_Script : List Str := ["self", "answers", "rest"]
theorem sc_i_Script : FnScope N_i_Script p_i_Script (defScope s_i_Script) := ⟨rfl, rfl, rfl, by decide +kernel, rfl, by decide +kernel, by decide +kernel⟩
abbrev s_scall : Stmt := inClass (top 12) 1
abbrev N_scall : List Str := ["self", "name", "at"]
abbrev p_scall : List Str := ["self", "name"]
theorem sc_scall : FnScope N_scall p_scall (defScope s_scall) := ⟨rfl, rfl, rfl, by decide +kernel, rfl, by decide +kernel, by decide +kernel⟩
abbrev s_asked : Stmt := inClass (top 12) 2
abbrev N_asked : List Str := ["self"]
abbrev p_asked : List Str := ["self"]
theorem sc_asked : FnScope N_asked p_asked (defScope s_asked) := ⟨rfl, rfl, rfl, by decide +kernel, rfl, by decide +kernel, by decide +kernel⟩
abbrev s_are_answers : Stmt := top 11
abbrev N_are_answers : List Str := ["thing", "answer"]
abbrev p_are_answers : List Str := ["thing"]
theorem sc_are_answers : FnScope N_are_answers p_are_answers (defScope s_are_answers) := ⟨rfl, rfl, rfl, by decide +kernel, rfl, by decide +kernel, by decide +kernel⟩
abbrev s_L_begin : Stmt := top 14
abbrev N_L_begin : List Str := ["_law_script", "_law_cells", "_law_cell"]
abbrev p_L_begin : List Str := ["_law_script"]
theorem sc_L_begin : FnScope N_L_begin p_L_begin (defScope s_L_begin) := ⟨rfl, rfl, rfl, by decide +kernel, rfl, by decide +kernel, by decide +kernel⟩
abbrev s_L_draw : Stmt := top 15
abbrev N_L_draw : List Str := ["_law_state", "_law_size", "_law_found", "_law_turn", "_law_cell", "_law_mixed"]
abbrev p_L_draw : List Str := ["_law_state", "_law_size"]
theorem sc_L_draw : FnScope N_L_draw p_L_draw (defScope s_L_draw) := ⟨rfl, rfl, rfl, by decide +kernel, rfl, by decide +kernel, by decide +kernel⟩
abbrev s_L_pick : Stmt := top 16
abbrev N_L_pick : List Str := ["_law_state", "_law_some"]
abbrev p_L_pick : List Str := ["_law_state", "_law_some"]
theorem sc_L_pick : FnScope N_L_pick p_L_pick (defScope s_L_pick) := ⟨rfl, rfl, rfl, by decide +kernel, rfl, by decide +kernel, by decide +kernel⟩
abbrev s_L_word : Stmt := top 17
abbrev N_L_word : List Str := ["_law_state", "_law_way", "_law_letters", "_law_name", "_law_k"]
abbrev p_L_word : List Str := ["_law_state"]
theorem sc_L_word : FnScope N_L_word p_L_word (defScope s_L_word) := ⟨rfl, rfl, rfl, by decide +kernel, rfl, by decide +kernel, by decide +kernel⟩
abbrev s_L_kept : Stmt := top 18
abbrev N_L_kept : List Str := []
abbrev p_L_kept : List Str := []
theorem sc_L_kept : FnScope N_L_kept p_L_kept (defScope s_L_kept) := ⟨rfl, rfl, rfl, by decide +kernel, rfl, by decide +kernel, by decide +kernel⟩
abbrev s_L_kind : Stmt := top 19
abbrev N_L_kind : List Str := ["_law_error", "_law_marks", "_law_words"]
abbrev p_L_kind : List Str := ["_law_error"]
theorem sc_L_kind : FnScope N_L_kind p_L_kind (defScope s_L_kind) := ⟨rfl, rfl, rfl, by decide +kernel, rfl, by decide +kernel, by decide +kernel⟩
abbrev s_L_answers : Stmt := top 20
abbrev N_L_answers : List Str := ["_law_state", "_law_most", "_law_k"]
abbrev p_L_answers : List Str := ["_law_state", "_law_most"]
theorem sc_L_answers : FnScope N_L_answers p_L_answers (defScope s_L_answers) := ⟨rfl, rfl, rfl, by decide +kernel, rfl, by decide +kernel, by decide +kernel⟩
abbrev s_L_made : Stmt := top 21
abbrev N_L_made : List Str := ["_law_answers_here", "_law_rest", "_law_found", "_law_caught", "_law_error"]
abbrev p_L_made : List Str := ["_law_answers_here", "_law_rest"]
theorem sc_L_made : FnScope N_L_made p_L_made (defScope s_L_made) := ⟨rfl, rfl, rfl, by decide +kernel, rfl, by decide +kernel, by decide +kernel⟩
abbrev s_L_good : Stmt := top 22
abbrev N_L_good : List Str := ["_law_answers_here", "_law_rest", "_law_answer"]
abbrev p_L_good : List Str := ["_law_answers_here", "_law_rest"]
theorem sc_L_good : FnScope N_L_good p_L_good (defScope s_L_good) := ⟨rfl, rfl, rfl, by decide +kernel, rfl, by decide +kernel, by decide +kernel⟩
abbrev s_law : Stmt := top 23
abbrev N_law : List Str := ["_law_script", "_law_state", "_law_other", "_law_turn", "_law_answers_here", "_law_rest", "_law_way", "_law_odd", "_law_found", "_law_names", "_law_told", "_law_name", "_law_k"]
abbrev p_law : List Str := ["_law_script"]
theorem sc_law : FnScope N_law p_law (defScope s_law) := ⟨rfl, rfl, rfl, by decide +kernel, rfl, by decide +kernel, by decide +kernel⟩
abbrev s_i_NoAnswer : Stmt := inClass (top 8) 0
abbrev N_i_NoAnswer : List Str := ["self", "name"]
abbrev p_i_NoAnswer : List Str := ["self", "name"]
theorem sc_i_NoAnswer : FnScope N_i_NoAnswer p_i_NoAnswer (defScope s_i_NoAnswer) := ⟨rfl, rfl, rfl, by decide +kernel, rfl, by decide +kernel, by decide +kernel⟩
structure Txt (K : PySem.W.Frag) (mg : Str → Option Value) where
  cl : Nat → Addr
  a_i_Script : Addr
  d_i_Script : FuncData
  F_i_Script : FunX K "__init__" "Script.__init__" s_i_Script [.bl true] a_i_Script d_i_Script
  k_i_Script : PySem.W.keepIn K (.ref a_i_Script) = true
  b_i_Script : Binds K d_i_Script p_i_Script []
  ds_i_Script : List Value
  dr_i_Script : Vals [.bl true] ds_i_Script
  bd_i_Script : Binds K d_i_Script p_i_Script ds_i_Script
  a_scall : Addr
  d_scall : FuncData
  F_scall : FunX K "__call__" "Script.__call__" s_scall [] a_scall d_scall
  k_scall : PySem.W.keepIn K (.ref a_scall) = true
  b_scall : Binds K d_scall p_scall []
  a_asked : Addr
  d_asked : FuncData
  F_asked : FunX K "asked" "Script.asked" s_asked [] a_asked d_asked
  k_asked : PySem.W.keepIn K (.ref a_asked) = true
  b_asked : Binds K d_asked p_asked []
  a_are_answers : Addr
  d_are_answers : FuncData
  F_are_answers : FunX K "are_answers" "are_answers" s_are_answers [] a_are_answers d_are_answers
  m_are_answers : mg "are_answers" = some (.ref a_are_answers)
  k_are_answers : PySem.W.keepIn K (.ref a_are_answers) = true
  b_are_answers : Binds K d_are_answers p_are_answers []
  a_L_begin : Addr
  d_L_begin : FuncData
  F_L_begin : FunX K "_law_begin" "_law_begin" s_L_begin [] a_L_begin d_L_begin
  m_L_begin : mg "_law_begin" = some (.ref a_L_begin)
  k_L_begin : PySem.W.keepIn K (.ref a_L_begin) = true
  b_L_begin : Binds K d_L_begin p_L_begin []
  a_L_draw : Addr
  d_L_draw : FuncData
  F_L_draw : FunX K "_law_draw" "_law_draw" s_L_draw [] a_L_draw d_L_draw
  m_L_draw : mg "_law_draw" = some (.ref a_L_draw)
  k_L_draw : PySem.W.keepIn K (.ref a_L_draw) = true
  b_L_draw : Binds K d_L_draw p_L_draw []
  a_L_pick : Addr
  d_L_pick : FuncData
  F_L_pick : FunX K "_law_pick" "_law_pick" s_L_pick [] a_L_pick d_L_pick
  m_L_pick : mg "_law_pick" = some (.ref a_L_pick)
  k_L_pick : PySem.W.keepIn K (.ref a_L_pick) = true
  b_L_pick : Binds K d_L_pick p_L_pick []
  a_L_word : Addr
  d_L_word : FuncData
  F_L_word : FunX K "_law_word" "_law_word" s_L_word [] a_L_word d_L_word
  m_L_word : mg "_law_word" = some (.ref a_L_word)
  k_L_word : PySem.W.keepIn K (.ref a_L_word) = true
  b_L_word : Binds K d_L_word p_L_word []
  a_L_kept : Addr
  d_L_kept : FuncData
  F_L_kept : FunX K "_law_kept" "_law_kept" s_L_kept [] a_L_kept d_L_kept
  m_L_kept : mg "_law_kept" = some (.ref a_L_kept)
  k_L_kept : PySem.W.keepIn K (.ref a_L_kept) = true
  b_L_kept : Binds K d_L_kept p_L_kept []
  a_L_kind : Addr
  d_L_kind : FuncData
  F_L_kind : FunX K "_law_kind" "_law_kind" s_L_kind [] a_L_kind d_L_kind
  m_L_kind : mg "_law_kind" = some (.ref a_L_kind)
  k_L_kind : PySem.W.keepIn K (.ref a_L_kind) = true
  b_L_kind : Binds K d_L_kind p_L_kind []
  a_L_answers : Addr
  d_L_answers : FuncData
  F_L_answers : FunX K "_law_answers" "_law_answers" s_L_answers [] a_L_answers d_L_answers
  m_L_answers : mg "_law_answers" = some (.ref a_L_answers)
  k_L_answers : PySem.W.keepIn K (.ref a_L_answers) = true
  b_L_answers : Binds K d_L_answers p_L_answers []
  a_L_made : Addr
  d_L_made : FuncData
  F_L_made : FunX K "_law_made" "_law_made" s_L_made [] a_L_made d_L_made
  m_L_made : mg "_law_made" = some (.ref a_L_made)
  k_L_made : PySem.W.keepIn K (.ref a_L_made) = true
  b_L_made : Binds K d_L_made p_L_made []
  a_L_good : Addr
  d_L_good : FuncData
  F_L_good : FunX K "_law_good" "_law_good" s_L_good [] a_L_good d_L_good
  m_L_good : mg "_law_good" = some (.ref a_L_good)
  k_L_good : PySem.W.keepIn K (.ref a_L_good) = true
  b_L_good : Binds K d_L_good p_L_good []
  a_law : Addr
  d_law : FuncData
  F_law : FunX K "law" "law" s_law [] a_law d_law
  m_law : mg "law" = some (.ref a_law)
  k_law : PySem.W.keepIn K (.ref a_law) = true
  b_law : Binds K d_law p_law []
  a_i_NoAnswer : Addr
  d_i_NoAnswer : FuncData
  F_i_NoAnswer : FunX K "__init__" "NoAnswer.__init__" s_i_NoAnswer [.non] a_i_NoAnswer d_i_NoAnswer
  k_i_NoAnswer : PySem.W.keepIn K (.ref a_i_NoAnswer) = true
  b_i_NoAnswer : Binds K d_i_NoAnswer p_i_NoAnswer []
  ds_i_NoAnswer : List Value
  dr_i_NoAnswer : Vals [.non] ds_i_NoAnswer
  bd_i_NoAnswer : Binds K d_i_NoAnswer p_i_NoAnswer ds_i_NoAnswer
  n_ValueError : mg "ValueError" = none
  n_abs : mg "abs" = none
  n_all : mg "all" = none
  n_bool : mg "bool" = none
  n_int : mg "int" = none
  n_isinstance : mg "isinstance" = none
  n_len : mg "len" = none
  n_list : mg "list" = none
  n_range : mg "range" = none
  n_repr : mg "repr" = none
  n_set : mg "set" = none
  n_sorted : mg "sorted" = none
  n_tuple : mg "tuple" = none
  g_ModeError : mg "ModeError" = some (.ref (cl 0))
  g_Script : mg "Script" = some (.ref (cl 1))
  g_NoMachine : mg "NoMachine" = some (.ref (cl 2))
  g_NoAnswer : mg "NoAnswer" = some (.ref (cl 3))
  g_NoProgram : mg "NoProgram" = some (.ref (cl 4))
  g_NoBook : mg "NoBook" = some (.ref (cl 5))
  g_NoModes : mg "NoModes" = some (.ref (cl 6))
  g_Stuck : mg "Stuck" = some (.ref (cl 7))
  g_TooMany : mg "TooMany" = some (.ref (cl 8))
  g_NoText : mg "NoText" = some (.ref (cl 9))
  M_Script : Mk K (cl 1) a_i_Script
  a_answers : ∀ c, okP c = true → Cls K (cl c) ∧ NoAttr K (cl c) (s2 "answers")
  a_rest : ∀ c, okP c = true → Cls K (cl c) ∧ NoAttr K (cl c) (s2 "rest")
  a_names : ∀ c, okP c = true → Cls K (cl c) ∧ NoAttr K (cl c) (s2 "names")
  p_asked : ∀ c, okP c = true → Cls K (cl c) ∧ ∃ p, PropOf K (cl c) "asked" p a_asked
  i_ModeError : IsxOk (Wd.mk K cl) (.ref (cl 0)) pb_ModeError pc_ModeError px_ModeError
  i_NoAnswer : IsxOk (Wd.mk K cl) (.ref (cl 3)) pb_NoAnswer pc_NoAnswer px_NoAnswer
  i_NoBook : IsxOk (Wd.mk K cl) (.ref (cl 5)) pb_NoBook pc_NoBook px_NoBook
  i_NoMachine : IsxOk (Wd.mk K cl) (.ref (cl 2)) pb_NoMachine pc_NoMachine px_NoMachine
  i_NoModes : IsxOk (Wd.mk K cl) (.ref (cl 6)) pb_NoModes pc_NoModes px_NoModes
  i_NoProgram : IsxOk (Wd.mk K cl) (.ref (cl 4)) pb_NoProgram pc_NoProgram px_NoProgram
  i_NoText : IsxOk (Wd.mk K cl) (.ref (cl 9)) pb_NoText pc_NoText px_NoText
  i_Stuck : IsxOk (Wd.mk K cl) (.ref (cl 7)) pb_Stuck pc_Stuck px_Stuck
  i_TooMany : IsxOk (Wd.mk K cl) (.ref (cl 8)) pb_TooMany pc_TooMany px_TooMany
  i_ValueError : IsxOk (Wd.mk K cl) (.type "ValueError") pb_ValueError pc_ValueError px_ValueError
  i_bool : IsiOk (Wd.mk K cl) (.type "bool") pb_bool pc_bool
  i_tuple : IsiOk (Wd.mk K cl) (.type "tuple") pb_tuple pc_tuple
  ov_ModeError : OvI K (cl 0) (.type "type")
  xn_NoAnswer : ExcN K (cl 3) a_i_NoAnswer
  xf_name : ∀ c, okX_name c = true → XfC K (cl c) ∧ PySem.W.findIn K (.ref (cl c)) (s2 "name") = some none
  ca_scall : ∀ c, okP c = true → CallC K (cl c) a_scall
  em_ModeError : ∀ c b, em_ModeError c = some b → PySem.W.exmOne K (.ref (cl c)) (.ref (cl 0)) = some b
abbrev Txt.w {K : PySem.W.Frag} {mg : Str → Option Value} (T : Txt K mg) : Wd := ⟨K, T.cl⟩
structure Oks (P : Program) (pw : World) (K : PySem.W.Frag) (mg : Str → Option Value) (base : Heap) (T : Txt K mg) (n : Nat) (E : Sem) : Prop where
  i_Script : FnY P pw K mg base (2 * n) T.a_i_Script T.d_i_Script p_i_Script (spIY T.w 1 3 E.i_Script)
  scall : FnY P pw K mg base (2 * n) T.a_scall T.d_scall p_scall (spY T.w 2 E.scall)
  asked : FnOk P pw K mg base CX0 (2 * n) T.a_asked T.d_asked p_asked (spF T.w 1 E.asked)
  are_answers : FnY P pw K mg base (2 * n) T.a_are_answers T.d_are_answers p_are_answers (spY T.w 1 E.are_answers)
  L_begin : FnY P pw K mg base (2 * n) T.a_L_begin T.d_L_begin p_L_begin (spY T.w 1 E.L_begin)
  L_draw : FnY P pw K mg base (2 * n) T.a_L_draw T.d_L_draw p_L_draw (spY T.w 2 E.L_draw)
  L_pick : FnY P pw K mg base (2 * n) T.a_L_pick T.d_L_pick p_L_pick (spY T.w 2 E.L_pick)
  L_word : FnY P pw K mg base (2 * n) T.a_L_word T.d_L_word p_L_word (spY T.w 1 E.L_word)
  L_kept : FnY P pw K mg base (2 * n) T.a_L_kept T.d_L_kept p_L_kept (spY T.w 0 E.L_kept)
  L_kind : FnY P pw K mg base (2 * n) T.a_L_kind T.d_L_kind p_L_kind (spY T.w 1 E.L_kind)
  L_answers : FnY P pw K mg base (2 * n) T.a_L_answers T.d_L_answers p_L_answers (spY T.w 2 E.L_answers)
  L_made : FnY P pw K mg base (2 * n) T.a_L_made T.d_L_made p_L_made (spY T.w 2 E.L_made)
  L_good : FnY P pw K mg base (2 * n) T.a_L_good T.d_L_good p_L_good (spY T.w 2 E.L_good)
  law : FnY P pw K mg base (2 * n) T.a_law T.d_law p_law (spY T.w 1 E.law)
  na : E.na = true → FnOk P pw K mg base CX0 (2 * n) T.a_i_NoAnswer T.d_i_NoAnswer p_i_NoAnswer (spNA K)
theorem t_i_NoAnswer {P : Program} {pw : World} {K : PySem.W.Frag} {mg : Str → Option Value} {base : Heap} (T : Txt K mg) (k : Nat) : FnOk P pw K mg base CX0 (k + 1) T.a_i_NoAnswer T.d_i_NoAnswer p_i_NoAnswer (spNA K) :=
  naInit T.F_i_NoAnswer sc_i_NoAnswer fun cdv A0 outer s H Ex => pss_cons (ps_expr (pe_ovi (mc := .type "type") (pe_glob rfl T.g_ModeError rfl (by decide)) T.ov_ModeError (pa_cons (pe_var rfl (by first | exact Or.inl rfl | exact Or.inr (Or.inl rfl))) (pa_cons (pe_var rfl (by first | exact Or.inl rfl | exact Or.inr (Or.inl rfl))) pa_nil)) rfl rfl rfl)) (pss_one (ps_ost (pe_var rfl (by first | exact Or.inl rfl | exact Or.inr (Or.inl rfl))) (pe_var rfl (by first | exact Or.inl rfl | exact Or.inr (Or.inl rfl)))))
theorem t_i_Script {P : Program} {pw : World} {K : PySem.W.Frag} {mg : Str → Option Value} {base : Heap} {n : Nat} {f : Addr} {E : Sem} (T : Txt K mg) (A : Oks P pw K mg base T n E) (cdv : Value) (A0 : Around) (outer : List Env) (s : Shared) (H : Hp) (Ex : XK) (hgu : A0.guards = some []) (hr : Room (2 * n + 1) (A0.deeper (PyProof.Rows.envOfC "Script.__init__" (defScope s_i_Script) s.heap.objs.size f cdv))) :
    PSs (cxOf (L2.CX P pw) P pw K mg base N_i_Script "Script.__init__" (defScope s_i_Script) f cdv A0 outer s H Ex) (defBody s_i_Script) (rdS T.w (WD Ex) (v_i_Script E)) := by
  have hr0 : Room (2 * n) (A0.deeper (PyProof.Rows.envOfC "Script.__init__" (defScope s_i_Script) s.heap.objs.size f cdv)) := hr.mono (by omega)
  have tk : Takes (cxOf (L2.CX P pw) P pw K mg base N_i_Script "Script.__init__" (defScope s_i_Script) f cdv A0 outer s H Ex) (WD Ex) := takes_of rfl rfl rfl rfl
  exact (ss_cons (st_if (PW.pt (w_or (t_not (tV (e_callY hgu tk A.are_answers hr0 rfl T.m_are_answers T.k_are_answers T.b_are_answers .nil def_nil (by decide) rfl rfl (aC (pvE 1) a_nil)))) (w_or1 (t_not (tV (e_isi rfl (bn_of rfl T.n_isinstance (by decide +kernel)) T.i_bool (.ty "bool") (pe_bltn rfl T.n_bool (by decide +kernel) rfl (by decide) (by decide)) rfl rfl rfl (pvE 2)))))))
  (ss_cons (st_raiseB rfl tk T.xn_NoAnswer A.na hr T.bd_i_NoAnswer T.dr_i_NoAnswer rfl T.g_NoAnswer (by decide))
  ss_nil)
  ss_nil)
  (ss_cons (st_fldS T.a_answers rfl (.inl rfl) (by decide) (by decide) rfl (pvE 1))
  (ss_cons (st_fldS T.a_rest rfl (.inl rfl) (by decide) (by decide) rfl (pvE 2))
  (ss_cons (st_fldS T.a_names rfl (.inl rfl) (by decide) (by decide) rfl (e_new (e_lst a_nil)))
  ss_nil))))
theorem t_scall {P : Program} {pw : World} {K : PySem.W.Frag} {mg : Str → Option Value} {base : Heap} {n : Nat} {f : Addr} {E : Sem} (T : Txt K mg) (A : Oks P pw K mg base T n E) (cdv : Value) (A0 : Around) (outer : List Env) (s : Shared) (H : Hp) (Ex : XK) (hgu : A0.guards = some []) (hr : Room (2 * n + 1) (A0.deeper (PyProof.Rows.envOfC "Script.__call__" (defScope s_scall) s.heap.objs.size f cdv))) :
    PSs (cxOf (L2.CX P pw) P pw K mg base N_scall "Script.__call__" (defScope s_scall) f cdv A0 outer s H Ex) (defBody s_scall) (rdS T.w (WD Ex) (v_scall E)) := by
  have hr0 : Room (2 * n) (A0.deeper (PyProof.Rows.envOfC "Script.__call__" (defScope s_scall) s.heap.objs.size f cdv)) := hr.mono (by omega)
  have tk : Takes (cxOf (L2.CX P pw) P pw K mg base N_scall "Script.__call__" (defScope s_scall) f cdv A0 outer s H Ex) (WD Ex) := takes_of rfl rfl rfl rfl
  exact (ss_cons (stSet 2 sc_scall.nd (e_bf1 (ok_len rfl) call_len (bn_of rfl T.n_len (by decide +kernel)) ⟨rfl, rfl⟩ (e_fld T.a_names rfl (pvE 0))) (stoE sc_scall.nd))
  (ss_cons (st_expr rfl (e_appO (e_fld T.a_names rfl (pvE 0)) (aC (pvE 1) a_nil) ⟨rfl, rfl, rfl, rfl, rfl⟩))
  (ss_cons (st_ret (e_if (tC' ok_lt op_ltA (pvE 2) (e_bf1 (ok_len rfl) call_len (bn_of rfl T.n_len (by decide +kernel)) ⟨rfl, rfl⟩ (e_fld T.a_answers rfl (pvE 0)))) (eIx (e_fld T.a_answers rfl (pvE 0)) (pvE 2)) (e_fld T.a_rest rfl (pvE 0))))
  ss_nil)))
theorem t_asked {P : Program} {pw : World} {K : PySem.W.Frag} {mg : Str → Option Value} {base : Heap} {n : Nat} {f : Addr} {E : Sem} (T : Txt K mg) (A : Oks P pw K mg base T n E) (cdv : Value) (A0 : Around) (outer : List Env) (s : Shared) (H : Hp) (Ex : XK) (hr : Room (2 * n + 1) (A0.deeper (PyProof.Rows.envOfC "Script.asked" (defScope s_asked) s.heap.objs.size f cdv))) :
    PSs (cxOf CX0 P pw K mg base N_asked "Script.asked" (defScope s_asked) f cdv A0 outer s H Ex).nox (defBody s_asked) (rdS T.w WF (v_asked E)) := by
  have hr0 : Room (2 * n) (A0.deeper (PyProof.Rows.envOfC "Script.asked" (defScope s_asked) s.heap.objs.size f cdv)) := hr.mono (by omega)
  exact (ss_cons (st_ret (e_bt1 (ok_lstOf rfl) call_list_of (bn_of rfl T.n_list (by decide +kernel)) ⟨rfl, rfl⟩ (e_fld T.a_names rfl (pvE 0))))
  ss_nil)
theorem t_are_answers {P : Program} {pw : World} {K : PySem.W.Frag} {mg : Str → Option Value} {base : Heap} {n : Nat} {f : Addr} {E : Sem} (T : Txt K mg) (A : Oks P pw K mg base T n E) (cdv : Value) (A0 : Around) (outer : List Env) (s : Shared) (H : Hp) (Ex : XK) (hgu : A0.guards = some []) (hr : Room (2 * n + 1) (A0.deeper (PyProof.Rows.envOfC "are_answers" (defScope s_are_answers) s.heap.objs.size f cdv))) :
    PSs (cxOf (L2.CX P pw) P pw K mg base N_are_answers "are_answers" (defScope s_are_answers) f cdv A0 outer s H Ex) (defBody s_are_answers) (rdS T.w (WD Ex) (v_are_answers E)) := by
  have hr0 : Room (2 * n) (A0.deeper (PyProof.Rows.envOfC "are_answers" (defScope s_are_answers) s.heap.objs.size f cdv)) := hr.mono (by omega)
  have tk : Takes (cxOf (L2.CX P pw) P pw K mg base N_are_answers "are_answers" (defScope s_are_answers) f cdv A0 outer s H Ex) (WD Ex) := takes_of rfl rfl rfl rfl
  exact (ss_cons (st_ret (e_and (e_isi rfl (bn_of rfl T.n_isinstance (by decide +kernel)) T.i_tuple (.ty "tuple") (pe_bltn rfl T.n_tuple (by decide +kernel) rfl (by decide) (by decide)) rfl rfl rfl (pvE 0)) (e_and1 (e_bf1 (ok_all rfl) (cr_all rfl) (bn_of rfl T.n_all (by decide +kernel)) ⟨rfl, rfl⟩ (eLc [("answer", 1)] sc_are_answers.nd (i_seq rfl (pvE 0)) (fun _ _ _ _ _ => (gNmE 1 (stoE sc_are_answers.nd))) (fun _ _ _ _ _ => c_nil) (fun _ _ _ _ _ => (e_isi rfl (bn_of rfl T.n_isinstance (by decide +kernel)) T.i_bool (.ty "bool") (pe_bltn rfl T.n_bool (by decide +kernel) rfl (by decide) (by decide)) rfl rfl rfl (pvE 1))) (ok := (blkOk_by (show blkC N_are_answers (defScope s_are_answers) _ [("answer", 1)] = true by decide +kernel))))))))
  ss_nil)
theorem t_L_begin {P : Program} {pw : World} {K : PySem.W.Frag} {mg : Str → Option Value} {base : Heap} {n : Nat} {f : Addr} {E : Sem} (T : Txt K mg) (A : Oks P pw K mg base T n E) (cdv : Value) (A0 : Around) (outer : List Env) (s : Shared) (H : Hp) (Ex : XK) (hgu : A0.guards = some []) (hr : Room (2 * n + 1) (A0.deeper (PyProof.Rows.envOfC "_law_begin" (defScope s_L_begin) s.heap.objs.size f cdv))) :
    PSs (cxOf (L2.CX P pw) P pw K mg base N_L_begin "_law_begin" (defScope s_L_begin) f cdv A0 outer s H Ex) (defBody s_L_begin) (rdS T.w (WD Ex) (v_L_begin E)) := by
  have hr0 : Room (2 * n) (A0.deeper (PyProof.Rows.envOfC "_law_begin" (defScope s_L_begin) s.heap.objs.size f cdv)) := hr.mono (by omega)
  have tk : Takes (cxOf (L2.CX P pw) P pw K mg base N_L_begin "_law_begin" (defScope s_L_begin) f cdv A0 outer s H Ex) (WD Ex) := takes_of rfl rfl rfl rfl
  exact (ss_cons (stLc 1 [("_law_cell", 2)] sc_L_begin.nd (i_seq rfl (pvE 0)) (fun _ _ _ _ _ => (gNmE 2 (stoE sc_L_begin.nd))) (fun _ _ _ _ _ => c_nil) (fun _ _ _ _ _ => (e_bf1 ok_abs call_abs (bn_of rfl T.n_abs (by decide +kernel)) ⟨rfl, rfl⟩ (pvE 2))) (stoE sc_L_begin.nd) (ok := (blkOk_by (show blkC N_L_begin (defScope s_L_begin) _ [("_law_cell", 2)] = true by decide +kernel))))
  (ss_cons (st_ret (e_new (e_dict rfl rfl (by intro q; cases q) (by decide) (d_cons e_str (e_new (eLc [("_law_cell", 2)] sc_L_begin.nd (i_seq rfl (pvE 1)) (fun _ _ _ _ _ => (gNmE 2 (stoE sc_L_begin.nd))) (fun _ _ _ _ _ => (c_one (tC' ok_cmp op_ge (pvE 2) (e_op2 ok_II op_powC e_int e_int)))) (fun _ _ _ _ _ => (e_op2 ok_II op_subC (pvE 2) (e_op2 ok_II op_powC e_int e_int))) (ok := (blkOk_by (show blkC N_L_begin (defScope s_L_begin) _ [("_law_cell", 2)] = true by decide +kernel))))) (d_cons e_str (pvE 1) (d_cons e_str e_int (d_cons e_str e_int d_nil)))))))
  ss_nil))
theorem t_L_draw {P : Program} {pw : World} {K : PySem.W.Frag} {mg : Str → Option Value} {base : Heap} {n : Nat} {f : Addr} {E : Sem} (T : Txt K mg) (A : Oks P pw K mg base T n E) (cdv : Value) (A0 : Around) (outer : List Env) (s : Shared) (H : Hp) (Ex : XK) (hgu : A0.guards = some []) (hr : Room (2 * n + 1) (A0.deeper (PyProof.Rows.envOfC "_law_draw" (defScope s_L_draw) s.heap.objs.size f cdv))) :
    PSs (cxOf (L2.CX P pw) P pw K mg base N_L_draw "_law_draw" (defScope s_L_draw) f cdv A0 outer s H Ex) (defBody s_L_draw) (rdS T.w (WD Ex) (v_L_draw E)) := by
  have hr0 : Room (2 * n) (A0.deeper (PyProof.Rows.envOfC "_law_draw" (defScope s_L_draw) s.heap.objs.size f cdv)) := hr.mono (by omega)
  have tk : Takes (cxOf (L2.CX P pw) P pw K mg base N_L_draw "_law_draw" (defScope s_L_draw) f cdv A0 outer s H Ex) (WD Ex) := takes_of rfl rfl rfl rfl
  exact (ss_cons (stWhileY (passes_of rfl) (PW.pt (w_and (tC' ok_eq (op_eqP (cr_of hr rfl)) (eDg (units_of hr) (pvE 0) e_str) e_int) (w_and1 (tC' ok_ne (op_neP (cr_of hr rfl)) (eDg (units_of hr) (pvE 0) e_str) (e_lst a_nil)))))
  (ss_cons (st_put (units_of hr) rfl (pvE 0) e_str (e_popO (eDg (units_of hr) (pvE 0) e_str) (aC e_int a_nil) ⟨rfl, rfl, rfl, rfl, rfl⟩))
  ss_nil))
  (ss_cons (st_if (tC' ok_cmp op_gt (eDg (units_of hr) (pvE 0) e_str) e_int)
  (ss_cons (stSet 2 sc_L_draw.nd (e_op2 ok_II op_modC (e_bt1 ok_int call_int1 (bn_of rfl T.n_int (by decide +kernel)) ⟨rfl, rfl⟩ (eDg (units_of hr) (pvE 0) e_str)) (pvE 1)) (stoE sc_L_draw.nd))
  (ss_cons (st_put (units_of hr) rfl (pvE 0) e_str (e_op2 ok_II op_fdivC (eDg (units_of hr) (pvE 0) e_str) (pvE 1)))
  (ss_cons (st_ret (pvE 2))
  ss_nil)))
  ss_nil)
  (ss_cons (stSet 3 sc_L_draw.nd (e_op2 ok_add op_addA (eDg (units_of hr) (pvE 0) e_str) e_int) (stoE sc_L_draw.nd))
  (ss_cons (st_put (units_of hr) rfl (pvE 0) e_str (pvE 3))
  (ss_cons (stSet 4 sc_L_draw.nd (e_if (tC' ok_ne (op_neP (cr_of hr rfl)) (eDg (units_of hr) (pvE 0) e_str) (e_lst a_nil)) (eIx (eDg (units_of hr) (pvE 0) e_str) (e_op2 ok_II op_modC (e_bt1 ok_int call_int1 (bn_of rfl T.n_int (by decide +kernel)) ⟨rfl, rfl⟩ (pvE 3)) (e_bf1 (ok_len rfl) call_len (bn_of rfl T.n_len (by decide +kernel)) ⟨rfl, rfl⟩ (eDg (units_of hr) (pvE 0) e_str)))) e_int) (stoE sc_L_draw.nd))
  (ss_cons (stSet 5 sc_L_draw.nd (e_op2 ok_II op_modC (e_bt1 ok_int call_int1 (bn_of rfl T.n_int (by decide +kernel)) ⟨rfl, rfl⟩ (e_op2 ok_II op_powC (e_op2 ok_add op_addA (e_op2 ok_add op_addA (e_op2 ok_II op_modC (e_bt1 ok_int call_int1 (bn_of rfl T.n_int (by decide +kernel)) ⟨rfl, rfl⟩ (pvE 4)) e_int) (e_op2 ok_mul op_mulA e_int (pvE 3))) e_int) e_int)) e_int) (stoE sc_L_draw.nd))
  (ss_cons (st_ret (e_op2 ok_II op_modC (e_bt1 ok_int call_int1 (bn_of rfl T.n_int (by decide +kernel)) ⟨rfl, rfl⟩ (e_op2 ok_II op_fdivC (e_op2 ok_II op_modC (e_bt1 ok_int call_int1 (bn_of rfl T.n_int (by decide +kernel)) ⟨rfl, rfl⟩ (e_op2 ok_II op_powC (e_op2 ok_add op_addA (pvE 5) (e_op2 ok_mul op_mulA e_int (pvE 3))) e_int)) e_int) e_int)) (pvE 1)))
  ss_nil)))))))
theorem t_L_pick {P : Program} {pw : World} {K : PySem.W.Frag} {mg : Str → Option Value} {base : Heap} {n : Nat} {f : Addr} {E : Sem} (T : Txt K mg) (A : Oks P pw K mg base T n E) (cdv : Value) (A0 : Around) (outer : List Env) (s : Shared) (H : Hp) (Ex : XK) (hgu : A0.guards = some []) (hr : Room (2 * n + 1) (A0.deeper (PyProof.Rows.envOfC "_law_pick" (defScope s_L_pick) s.heap.objs.size f cdv))) :
    PSs (cxOf (L2.CX P pw) P pw K mg base N_L_pick "_law_pick" (defScope s_L_pick) f cdv A0 outer s H Ex) (defBody s_L_pick) (rdS T.w (WD Ex) (v_L_pick E)) := by
  have hr0 : Room (2 * n) (A0.deeper (PyProof.Rows.envOfC "_law_pick" (defScope s_L_pick) s.heap.objs.size f cdv)) := hr.mono (by omega)
  have tk : Takes (cxOf (L2.CX P pw) P pw K mg base N_L_pick "_law_pick" (defScope s_L_pick) f cdv A0 outer s H Ex) (WD Ex) := takes_of rfl rfl rfl rfl
  exact (ss_cons (st_ret (eIx (pvE 1) (e_callY hgu tk A.L_draw hr0 rfl T.m_L_draw T.k_L_draw T.b_L_draw .nil def_nil (by decide) rfl rfl (aC (pvE 0) (aC (e_bf1 (ok_len rfl) call_len (bn_of rfl T.n_len (by decide +kernel)) ⟨rfl, rfl⟩ (pvE 1)) a_nil)))))
  ss_nil)
theorem t_L_word {P : Program} {pw : World} {K : PySem.W.Frag} {mg : Str → Option Value} {base : Heap} {n : Nat} {f : Addr} {E : Sem} (T : Txt K mg) (A : Oks P pw K mg base T n E) (cdv : Value) (A0 : Around) (outer : List Env) (s : Shared) (H : Hp) (Ex : XK) (hgu : A0.guards = some []) (hr : Room (2 * n + 1) (A0.deeper (PyProof.Rows.envOfC "_law_word" (defScope s_L_word) s.heap.objs.size f cdv))) :
    PSs (cxOf (L2.CX P pw) P pw K mg base N_L_word "_law_word" (defScope s_L_word) f cdv A0 outer s H Ex) (defBody s_L_word) (rdS T.w (WD Ex) (v_L_word E)) := by
  have hr0 : Room (2 * n) (A0.deeper (PyProof.Rows.envOfC "_law_word" (defScope s_L_word) s.heap.objs.size f cdv)) := hr.mono (by omega)
  have tk : Takes (cxOf (L2.CX P pw) P pw K mg base N_L_word "_law_word" (defScope s_L_word) f cdv A0 outer s H Ex) (WD Ex) := takes_of rfl rfl rfl rfl
  exact (ss_cons (stSet 1 sc_L_word.nd (e_callY hgu tk A.L_draw hr0 rfl T.m_L_draw T.k_L_draw T.b_L_draw .nil def_nil (by decide) rfl rfl (aC (pvE 0) (aC e_int a_nil))) (stoE sc_L_word.nd))
  (ss_cons (st_if (tC' ok_lt op_ltA (pvE 1) e_int)
  (ss_cons (st_ret (e_callY hgu tk A.L_pick hr0 rfl T.m_L_pick T.k_L_pick T.b_L_pick .nil def_nil (by decide) rfl rfl (aC (pvE 0) (aC (e_lst (aC e_str (aC e_str (aC e_str (aC e_str a_nil))))) a_nil))))
  ss_nil)
  ss_nil)
  (ss_cons (st_if (tC' ok_eq (op_eqP (cr_of hr rfl)) (pvE 1) e_int)
  (ss_cons (st_ret (e_callY hgu tk A.L_pick hr0 rfl T.m_L_pick T.k_L_pick T.b_L_pick .nil def_nil (by decide) rfl rfl (aC (pvE 0) (aC (e_lst (aC e_str (aC e_str (aC e_str (aC e_str (aC e_str (aC e_str (aC e_str (aC e_str (aC e_str (aC e_str (aC e_str a_nil)))))))))))) a_nil))))
  ss_nil)
  ss_nil)
  (ss_cons (stSet 2 sc_L_word.nd e_str (stoE sc_L_word.nd))
  (ss_cons (stSet 3 sc_L_word.nd (e_join rfl rfl rfl rfl e_str (eLc [("_law_k", 4)] sc_L_word.nd (i_rng1 (bn_of rfl T.n_range (by decide +kernel)) rfl (aC (e_op2 ok_add op_addA e_int (e_callY hgu tk A.L_draw hr0 rfl T.m_L_draw T.k_L_draw T.b_L_draw .nil def_nil (by decide) rfl rfl (aC (pvE 0) (aC e_int a_nil)))) a_nil)) (fun _ _ _ _ _ => (gNmE 4 (stoE sc_L_word.nd))) (fun _ _ _ _ _ => c_nil) (fun _ _ _ _ _ => (e_callY hgu takesF A.L_pick hr0 rfl T.m_L_pick T.k_L_pick T.b_L_pick .nil def_nil (by decide) rfl rfl (aC (pvE 0) (aC (pvE 2) a_nil)))) (ok := (blkOk_by (show blkC N_L_word (defScope s_L_word) _ [("_law_k", 4)] = true by decide +kernel))))) (stoE sc_L_word.nd))
  (ss_cons (st_ret (e_if (tC' ok_inG (op_inA (cr_of hr rfl)) (pvE 3) (e_callY0 hgu tk A.L_kept hr0 rfl T.m_L_kept T.k_L_kept T.b_L_kept .nil def_nil (by decide))) (e_op2 ok_add op_addA e_str (e_sl rfl (pvE 3) (o_some e_int) o_none)) (pvE 3)))
  ss_nil))))))
theorem t_L_kept {P : Program} {pw : World} {K : PySem.W.Frag} {mg : Str → Option Value} {base : Heap} {n : Nat} {f : Addr} {E : Sem} (T : Txt K mg) (A : Oks P pw K mg base T n E) (cdv : Value) (A0 : Around) (outer : List Env) (s : Shared) (H : Hp) (Ex : XK) (hgu : A0.guards = some []) (hr : Room (2 * n + 1) (A0.deeper (PyProof.Rows.envOfC "_law_kept" (defScope s_L_kept) s.heap.objs.size f cdv))) :
    PSs (cxOf (L2.CX P pw) P pw K mg base N_L_kept "_law_kept" (defScope s_L_kept) f cdv A0 outer s H Ex) (defBody s_L_kept) (rdS T.w (WD Ex) (v_L_kept E)) := by
  have hr0 : Room (2 * n) (A0.deeper (PyProof.Rows.envOfC "_law_kept" (defScope s_L_kept) s.heap.objs.size f cdv)) := hr.mono (by omega)
  have tk : Takes (cxOf (L2.CX P pw) P pw K mg base N_L_kept "_law_kept" (defScope s_L_kept) f cdv A0 outer s H Ex) (WD Ex) := takes_of rfl rfl rfl rfl
  exact (ss_cons (st_ret (e_lst (aC e_str (aC e_str (aC e_str (aC e_str (aC e_str (aC e_str (aC e_str (aC e_str (aC e_str (aC e_str (aC e_str (aC e_str a_nil))))))))))))))
  ss_nil)
theorem t_L_kind {P : Program} {pw : World} {K : PySem.W.Frag} {mg : Str → Option Value} {base : Heap} {n : Nat} {f : Addr} {E : Sem} (T : Txt K mg) (A : Oks P pw K mg base T n E) (cdv : Value) (A0 : Around) (outer : List Env) (s : Shared) (H : Hp) (Ex : XK) (hgu : A0.guards = some []) (hr : Room (2 * n + 1) (A0.deeper (PyProof.Rows.envOfC "_law_kind" (defScope s_L_kind) s.heap.objs.size f cdv))) :
    PSs (cxOf (L2.CX P pw) P pw K mg base N_L_kind "_law_kind" (defScope s_L_kind) f cdv A0 outer s H Ex) (defBody s_L_kind) (rdS T.w (WD Ex) (v_L_kind E)) := by
  have hr0 : Room (2 * n) (A0.deeper (PyProof.Rows.envOfC "_law_kind" (defScope s_L_kind) s.heap.objs.size f cdv)) := hr.mono (by omega)
  have tk : Takes (cxOf (L2.CX P pw) P pw K mg base N_L_kind "_law_kind" (defScope s_L_kind) f cdv A0 outer s H Ex) (WD Ex) := takes_of rfl rfl rfl rfl
  exact (ss_cons (st_if (tC' ok_isN op_isN (pvE 0) e_non)
  (ss_cons (st_ret e_str)
  ss_nil)
  ss_nil)
  (ss_cons (stSet 1 sc_L_kind.nd (e_lst (aC (e_isy rfl (bn_of rfl T.n_isinstance (by decide +kernel)) T.i_NoMachine (.own _) (pe_glob rfl T.g_NoMachine rfl (by decide)) rfl rfl rfl (pvE 0)) (aC (e_isy rfl (bn_of rfl T.n_isinstance (by decide +kernel)) T.i_NoAnswer (.own _) (pe_glob rfl T.g_NoAnswer rfl (by decide)) rfl rfl rfl (pvE 0)) (aC (e_isy rfl (bn_of rfl T.n_isinstance (by decide +kernel)) T.i_NoProgram (.own _) (pe_glob rfl T.g_NoProgram rfl (by decide)) rfl rfl rfl (pvE 0)) a_nil)))) (stoE sc_L_kind.nd))
  (ss_cons (stSet 1 sc_L_kind.nd (e_op2 ok_add op_addA (pvE 1) (e_lst (aC (e_isy rfl (bn_of rfl T.n_isinstance (by decide +kernel)) T.i_NoBook (.own _) (pe_glob rfl T.g_NoBook rfl (by decide)) rfl rfl rfl (pvE 0)) (aC (e_isy rfl (bn_of rfl T.n_isinstance (by decide +kernel)) T.i_NoModes (.own _) (pe_glob rfl T.g_NoModes rfl (by decide)) rfl rfl rfl (pvE 0)) (aC (e_isy rfl (bn_of rfl T.n_isinstance (by decide +kernel)) T.i_Stuck (.own _) (pe_glob rfl T.g_Stuck rfl (by decide)) rfl rfl rfl (pvE 0)) a_nil))))) (stoE sc_L_kind.nd))
  (ss_cons (stSet 1 sc_L_kind.nd (e_op2 ok_add op_addA (pvE 1) (e_lst (aC (e_isy rfl (bn_of rfl T.n_isinstance (by decide +kernel)) T.i_TooMany (.own _) (pe_glob rfl T.g_TooMany rfl (by decide)) rfl rfl rfl (pvE 0)) (aC (e_isy rfl (bn_of rfl T.n_isinstance (by decide +kernel)) T.i_NoText (.own _) (pe_glob rfl T.g_NoText rfl (by decide)) rfl rfl rfl (pvE 0)) a_nil)))) (stoE sc_L_kind.nd))
  (ss_cons (stSet 2 sc_L_kind.nd (e_lst (aC e_str (aC e_str (aC e_str (aC e_str (aC e_str (aC e_str (aC e_str (aC e_str a_nil))))))))) (stoE sc_L_kind.nd))
  (ss_cons (st_if (PW.pt (w_or (tC' ok_ne (op_neP (cr_of hr rfl)) (e_cntB rfl ⟨rfl, rfl, rfl, rfl, rfl⟩ (pvE 1) (aC e_bl a_nil)) e_int) (w_or (t_not (tV (e_isy rfl (bn_of rfl T.n_isinstance (by decide +kernel)) T.i_ModeError (.own _) (pe_glob rfl T.g_ModeError rfl (by decide)) rfl rfl rfl (pvE 0)))) (w_or1 (t_not (tV (e_isy rfl (bn_of rfl T.n_isinstance (by decide +kernel)) T.i_ValueError (.ty "ValueError") (pe_bltn rfl T.n_ValueError (by decide +kernel) rfl (by decide) (by decide)) rfl rfl rfl (pvE 0))))))))
  (ss_cons (st_ret e_str)
  ss_nil)
  ss_nil)
  (ss_cons (st_ret (eIx (pvE 2) (e_idxB rfl ⟨rfl, rfl, rfl, rfl, rfl⟩ (pvE 1) (aC e_bl a_nil))))
  ss_nil)))))))
theorem t_L_answers {P : Program} {pw : World} {K : PySem.W.Frag} {mg : Str → Option Value} {base : Heap} {n : Nat} {f : Addr} {E : Sem} (T : Txt K mg) (A : Oks P pw K mg base T n E) (cdv : Value) (A0 : Around) (outer : List Env) (s : Shared) (H : Hp) (Ex : XK) (hgu : A0.guards = some []) (hr : Room (2 * n + 1) (A0.deeper (PyProof.Rows.envOfC "_law_answers" (defScope s_L_answers) s.heap.objs.size f cdv))) :
    PSs (cxOf (L2.CX P pw) P pw K mg base N_L_answers "_law_answers" (defScope s_L_answers) f cdv A0 outer s H Ex) (defBody s_L_answers) (rdS T.w (WD Ex) (v_L_answers E)) := by
  have hr0 : Room (2 * n) (A0.deeper (PyProof.Rows.envOfC "_law_answers" (defScope s_L_answers) s.heap.objs.size f cdv)) := hr.mono (by omega)
  have tk : Takes (cxOf (L2.CX P pw) P pw K mg base N_L_answers "_law_answers" (defScope s_L_answers) f cdv A0 outer s H Ex) (WD Ex) := takes_of rfl rfl rfl rfl
  exact (ss_cons (st_ret (e_bt1 (ok_tupOf rfl) call_tuple_of (bn_of rfl T.n_tuple (by decide +kernel)) ⟨rfl, rfl⟩ (eLc [("_law_k", 2)] sc_L_answers.nd (i_rng1 (bn_of rfl T.n_range (by decide +kernel)) rfl (aC (e_callY hgu tk A.L_draw hr0 rfl T.m_L_draw T.k_L_draw T.b_L_draw .nil def_nil (by decide) rfl rfl (aC (pvE 0) (aC (e_op2 ok_add op_addA (pvE 1) e_int) a_nil))) a_nil)) (fun _ _ _ _ _ => (gNmE 2 (stoE sc_L_answers.nd))) (fun _ _ _ _ _ => c_nil) (fun _ _ _ _ _ => (eC ok_eq (op_eqP (cr_of hr rfl)) (e_callY hgu takesF A.L_draw hr0 rfl T.m_L_draw T.k_L_draw T.b_L_draw .nil def_nil (by decide) rfl rfl (aC (pvE 0) (aC e_int a_nil))) e_int)) (ok := (blkOk_by (show blkC N_L_answers (defScope s_L_answers) _ [("_law_k", 2)] = true by decide +kernel))))))
  ss_nil)
theorem t_L_made {P : Program} {pw : World} {K : PySem.W.Frag} {mg : Str → Option Value} {base : Heap} {n : Nat} {f : Addr} {E : Sem} (T : Txt K mg) (A : Oks P pw K mg base T n E) (cdv : Value) (A0 : Around) (outer : List Env) (s : Shared) (H : Hp) (Ex : XK) (hgu : A0.guards = some []) (hr : Room (2 * n + 1) (A0.deeper (PyProof.Rows.envOfC "_law_made" (defScope s_L_made) s.heap.objs.size f cdv))) :
    PSs (cxOf (L2.CX P pw) P pw K mg base N_L_made "_law_made" (defScope s_L_made) f cdv A0 outer s H Ex) (defBody s_L_made) (rdS T.w (WD Ex) (v_L_made E)) := by
  have hr0 : Room (2 * n) (A0.deeper (PyProof.Rows.envOfC "_law_made" (defScope s_L_made) s.heap.objs.size f cdv)) := hr.mono (by omega)
  have tk : Takes (cxOf (L2.CX P pw) P pw K mg base N_L_made "_law_made" (defScope s_L_made) f cdv A0 outer s H Ex) (WD Ex) := takes_of rfl rfl rfl rfl
  exact (ss_cons (st_asg rfl rfl rfl (g_tp rfl rfl rfl rfl (g_and rfl (gNmE 2 (stoE sc_L_made.nd)) (g_and rfl (gNmE 3 (stoE sc_L_made.nd)) g_no))) (e_tup (aC e_non (aC e_non a_nil))))
  (ss_cons (st_tryK (by decide) T.em_ModeError rfl rfl rfl sc_L_made.nd rfl rfl rfl (.inl rfl) (.inr rfl) (.inl rfl) (by decide) (by decide) rfl ⟨rfl, by decide, .inl T.g_ModeError⟩ tk (fun _ _ _ tk1 hp1 => (ss_cons (stSet 2 sc_L_made.nd (e_makeY hgu tk1 T.M_Script A.i_Script hr rfl T.g_Script T.b_i_Script .nil def_nil (by decide) rfl rfl (aC (pvE 0) (aC (pvE 1) a_nil))) (stoE sc_L_made.nd))
  ss_nil)))
  (ss_cons (st_if (tC' ok_isN op_isN (pvE 3) e_non)
  (ss_cons (st_ret (pvE 2))
  ss_nil)
  ss_nil)
  (ss_cons (st_ret (e_lst (aC (e_callY hgu tk A.L_kind hr0 rfl T.m_L_kind T.k_L_kind T.b_L_kind .nil def_nil (by decide) rfl rfl (aC (pvE 3) a_nil)) (aC (e_if (tV (e_isy rfl (bn_of rfl T.n_isinstance (by decide +kernel)) T.i_NoAnswer (.own _) (pe_glob rfl T.g_NoAnswer rfl (by decide)) rfl rfl rfl (pvE 3))) (e_fldX T.xf_name rfl (pvE 3)) e_str) a_nil))))
  ss_nil))))
theorem t_L_good {P : Program} {pw : World} {K : PySem.W.Frag} {mg : Str → Option Value} {base : Heap} {n : Nat} {f : Addr} {E : Sem} (T : Txt K mg) (A : Oks P pw K mg base T n E) (cdv : Value) (A0 : Around) (outer : List Env) (s : Shared) (H : Hp) (Ex : XK) (hgu : A0.guards = some []) (hr : Room (2 * n + 1) (A0.deeper (PyProof.Rows.envOfC "_law_good" (defScope s_L_good) s.heap.objs.size f cdv))) :
    PSs (cxOf (L2.CX P pw) P pw K mg base N_L_good "_law_good" (defScope s_L_good) f cdv A0 outer s H Ex) (defBody s_L_good) (rdS T.w (WD Ex) (v_L_good E)) := by
  have hr0 : Room (2 * n) (A0.deeper (PyProof.Rows.envOfC "_law_good" (defScope s_L_good) s.heap.objs.size f cdv)) := hr.mono (by omega)
  have tk : Takes (cxOf (L2.CX P pw) P pw K mg base N_L_good "_law_good" (defScope s_L_good) f cdv A0 outer s H Ex) (WD Ex) := takes_of rfl rfl rfl rfl
  exact (ss_cons (st_if (PW.pt (w_or (t_not (tV (e_isi rfl (bn_of rfl T.n_isinstance (by decide +kernel)) T.i_tuple (.ty "tuple") (pe_bltn rfl T.n_tuple (by decide +kernel) rfl (by decide) (by decide)) rfl rfl rfl (pvE 0)))) (w_or1 (t_not (tV (e_isi rfl (bn_of rfl T.n_isinstance (by decide +kernel)) T.i_bool (.ty "bool") (pe_bltn rfl T.n_bool (by decide +kernel) rfl (by decide) (by decide)) rfl rfl rfl (pvE 1)))))))
  (ss_cons (st_ret e_bl)
  ss_nil)
  ss_nil)
  (ss_cons (st_ret (eC ok_eq (op_eqP (cr_of hr rfl)) (eLc [("_law_answer", 2)] sc_L_good.nd (i_seq rfl (pvE 0)) (fun _ _ _ _ _ => (gNmE 2 (stoE sc_L_good.nd))) (fun _ _ _ _ _ => (c_one (t_not (tV (e_isi rfl (bn_of rfl T.n_isinstance (by decide +kernel)) T.i_bool (.ty "bool") (pe_bltn rfl T.n_bool (by decide +kernel) rfl (by decide) (by decide)) rfl rfl rfl (pvE 2)))))) (fun _ _ _ _ _ => (pvE 2)) (ok := (blkOk_by (show blkC N_L_good (defScope s_L_good) _ [("_law_answer", 2)] = true by decide +kernel)))) (e_lst a_nil)))
  ss_nil))
theorem t_law {P : Program} {pw : World} {K : PySem.W.Frag} {mg : Str → Option Value} {base : Heap} {n : Nat} {f : Addr} {E : Sem} (T : Txt K mg) (A : Oks P pw K mg base T n E) (cdv : Value) (A0 : Around) (outer : List Env) (s : Shared) (H : Hp) (Ex : XK) (hgu : A0.guards = some []) (hr : Room (2 * n + 1) (A0.deeper (PyProof.Rows.envOfC "law" (defScope s_law) s.heap.objs.size f cdv))) :
    PSs (cxOf (L2.CX P pw) P pw K mg base N_law "law" (defScope s_law) f cdv A0 outer s H Ex) (defBody s_law) (rdS T.w (WD Ex) (v_law E)) := by
  have hr0 : Room (2 * n) (A0.deeper (PyProof.Rows.envOfC "law" (defScope s_law) s.heap.objs.size f cdv)) := hr.mono (by omega)
  have tk : Takes (cxOf (L2.CX P pw) P pw K mg base N_law "law" (defScope s_law) f cdv A0 outer s H Ex) (WD Ex) := takes_of rfl rfl rfl rfl
  exact (ss_cons (stSet 1 sc_law.nd (e_callY hgu tk A.L_begin hr0 rfl T.m_L_begin T.k_L_begin T.b_L_begin .nil def_nil (by decide) rfl rfl (aC (pvE 0) a_nil)) (stoE sc_law.nd))
  (ss_cons (stSet 2 sc_law.nd (e_makeY hgu tk T.M_Script A.i_Script hr rfl T.g_Script T.b_i_Script .nil def_nil (by decide) rfl rfl (aC (e_tup a_nil) (aC e_bl a_nil))) (stoE sc_law.nd))
  (ss_cons (stForY (passes_of rfl) (i_rng1 (bn_of rfl T.n_range (by decide +kernel)) rfl (aC e_int a_nil)) (gNmE 3 (stoE sc_law.nd))
  (ss_cons (st_par rfl (stoE sc_law.nd) (stoE sc_law.nd) (by decide) rfl rfl rfl rfl (aC (e_callY hgu tk A.L_answers hr0 rfl T.m_L_answers T.k_L_answers T.b_L_answers .nil def_nil (by decide) rfl rfl (aC (pvE 1) (aC e_int a_nil))) (aC (eC ok_eq (op_eqP (cr_of hr rfl)) (e_callY hgu tk A.L_draw hr0 rfl T.m_L_draw T.k_L_draw T.b_L_draw .nil def_nil (by decide) rfl rfl (aC (pvE 1) (aC e_int a_nil))) e_int) a_nil)))
  (ss_cons (stSet 6 sc_law.nd (e_callY hgu tk A.L_draw hr0 rfl T.m_L_draw T.k_L_draw T.b_L_draw .nil def_nil (by decide) rfl rfl (aC (pvE 1) (aC e_int a_nil))) (stoE sc_law.nd))
  (ss_cons (stSet 7 sc_law.nd (e_callY hgu tk A.L_pick hr0 rfl T.m_L_pick T.k_L_pick T.b_L_pick .nil def_nil (by decide) rfl rfl (aC (pvE 1) (aC (e_lst (aC e_non (aC e_int (aC e_int (aC e_str (aC (e_lst a_nil) (aC (e_tup a_nil) (aC e_str (aC e_int a_nil))))))))) a_nil))) (stoE sc_law.nd))
  (ss_cons (st_if (tC' ok_eq (op_eqP (cr_of hr rfl)) (pvE 6) e_int)
  (ss_cons (stSet 4 sc_law.nd (e_op2 ok_add op_addA (pvE 4) (e_tup (aC (pvE 7) a_nil))) (stoE sc_law.nd))
  ss_nil)
  ss_nil)
  (ss_cons (st_if (tC' ok_eq (op_eqP (cr_of hr rfl)) (pvE 6) e_int)
  (ss_cons (stSet 4 sc_law.nd (e_callY hgu tk A.L_pick hr0 rfl T.m_L_pick T.k_L_pick T.b_L_pick .nil def_nil (by decide) rfl rfl (aC (pvE 1) (aC (e_lst (aC (e_bt1 (ok_lstOf rfl) call_list_of (bn_of rfl T.n_list (by decide +kernel)) ⟨rfl, rfl⟩ (pvE 4)) (aC (pvE 7) (aC (e_op2 ok_add op_addA (pvE 4) (e_tup (aC (e_tup (aC e_bl a_nil)) a_nil))) a_nil)))) a_nil))) (stoE sc_law.nd))
  ss_nil)
  ss_nil)
  (ss_cons (st_if (tC' ok_eq (op_eqP (cr_of hr rfl)) (pvE 6) e_int)
  (ss_cons (stSet 5 sc_law.nd (pvE 7) (stoE sc_law.nd))
  ss_nil)
  ss_nil)
  (ss_cons (stSet 8 sc_law.nd (e_callY hgu tk A.L_made hr0 rfl T.m_L_made T.k_L_made T.b_L_made .nil def_nil (by decide) rfl rfl (aC (pvE 4) (aC (pvE 5) a_nil))) (stoE sc_law.nd))
  (ss_cons (st_if (t_not (tV (e_callY hgu tk A.L_good hr0 rfl T.m_L_good T.k_L_good T.b_L_good .nil def_nil (by decide) rfl rfl (aC (pvE 4) (aC (pvE 5) a_nil)))))
  (ss_cons (st_if (tC' ok_ne (op_neP (cr_of hr rfl)) (pvE 8) (e_lst (aC e_str (aC e_non a_nil))))
  (ss_cons (st_ret e_bl)
  ss_nil)
  ss_nil)
  (ss_cons st_continue
  ss_nil))
  ss_nil)
  (ss_cons (stLc 9 [("_law_k", 12)] sc_law.nd (i_rng1 (bn_of rfl T.n_range (by decide +kernel)) rfl (aC (e_op2 ok_add op_addA (e_bf1 (ok_len rfl) call_len (bn_of rfl T.n_len (by decide +kernel)) ⟨rfl, rfl⟩ (pvE 4)) e_int) a_nil)) (fun _ _ _ _ _ => (gNmE 12 (stoE sc_law.nd))) (fun _ _ _ _ _ => c_nil) (fun _ _ _ _ _ => (e_callY hgu takesF A.L_word hr0 rfl T.m_L_word T.k_L_word T.b_L_word .nil def_nil (by decide) rfl rfl (aC (pvE 1) a_nil))) (stoE sc_law.nd) (ok := (blkOk_by (show blkC N_law (defScope s_law) _ [("_law_k", 12)] = true by decide +kernel))))
  (ss_cons (stSet 10 sc_law.nd (e_new (e_lst a_nil)) (stoE sc_law.nd))
  (ss_cons (stForY (passes_of rfl) (i_seq rfl (pvE 9)) (gNmE 11 (stoE sc_law.nd))
  (ss_cons (st_expr rfl (e_appO (pvE 10) (aC (e_callI hgu tk T.ca_scall A.scall hr0 T.b_scall rfl rfl (pvE 8) (aC (pvE 11) a_nil)) a_nil) ⟨rfl, rfl, rfl, rfl, rfl⟩))
  (ss_cons (st_if (tC' ok_isBN op_notBN (e_callI hgu tk T.ca_scall A.scall hr0 T.b_scall rfl rfl (pvE 2) (aC e_str a_nil)) e_bl)
  (ss_cons (st_ret e_bl)
  ss_nil)
  ss_nil)
  ss_nil)))
  (ss_cons (st_if (PW.pt (w_or (tC' ok_ne (op_neP (cr_of hr rfl)) (e_bf1 (ok_repr rfl) (call_repr hgu (units2_of hr)) (bn_of rfl T.n_repr (by decide +kernel)) ⟨rfl, rfl⟩ (pvE 10)) (e_bf1 (ok_repr rfl) (call_repr hgu (units2_of hr)) (bn_of rfl T.n_repr (by decide +kernel)) ⟨rfl, rfl⟩ (e_op2 ok_add op_addA (e_bt1 (ok_lstOf rfl) call_list_of (bn_of rfl T.n_list (by decide +kernel)) ⟨rfl, rfl⟩ (pvE 4)) (e_op2 ok_mul op_mulA (e_lst (aC (pvE 5) a_nil)) e_int)))) (w_or1 (tC' ok_ne (op_neP (cr_of hr rfl)) (e_prop rfl 1 rfl T.p_asked A.asked hr T.b_asked rfl (pvE 8)) (pvE 9)))))
  (ss_cons (st_ret e_bl)
  ss_nil)
  ss_nil)
  ss_nil)))))))))))))
  (ss_cons (st_ret (eC ok_inG (op_inA (cr_of hr rfl)) (e_sortSet1 rfl rfl (bn_of rfl T.n_sorted (by decide +kernel)) (bn_of rfl T.n_set (by decide +kernel)) ⟨rfl, rfl⟩ ⟨rfl, rfl⟩ (e_prop rfl 1 rfl T.p_asked A.asked hr T.b_asked rfl (pvE 2))) (e_lst (aC (e_lst a_nil) (aC (e_lst (aC e_str a_nil)) a_nil)))))
  ss_nil))))
theorem oks_succ {P : Program} {pw : World} {K : PySem.W.Frag} {mg : Str → Option Value} {base : Heap} {T : Txt K mg} {n : Nat} {E : Sem} (A : Oks P pw K mg base T n E) : Oks P pw K mg base T (n + 1) (step E) where
  i_Script := initY_ok T.F_i_Script sc_i_Script fun cdv A0 outer s H Ex hg hr => t_i_Script T A cdv A0 outer s H Ex hg hr
  scall := fnY_ok T.F_scall sc_scall fun cdv A0 outer s H Ex hg hr => t_scall T A cdv A0 outer s H Ex hg hr
  asked := fn_ok (fun_noD T.F_asked) sc_asked fun cdv A0 outer s H Ex hr => t_asked T A cdv A0 outer s H Ex hr
  are_answers := fnY_ok T.F_are_answers sc_are_answers fun cdv A0 outer s H Ex hg hr => t_are_answers T A cdv A0 outer s H Ex hg hr
  L_begin := fnY_ok T.F_L_begin sc_L_begin fun cdv A0 outer s H Ex hg hr => t_L_begin T A cdv A0 outer s H Ex hg hr
  L_draw := fnY_ok T.F_L_draw sc_L_draw fun cdv A0 outer s H Ex hg hr => t_L_draw T A cdv A0 outer s H Ex hg hr
  L_pick := fnY_ok T.F_L_pick sc_L_pick fun cdv A0 outer s H Ex hg hr => t_L_pick T A cdv A0 outer s H Ex hg hr
  L_word := fnY_ok T.F_L_word sc_L_word fun cdv A0 outer s H Ex hg hr => t_L_word T A cdv A0 outer s H Ex hg hr
  L_kept := fnY_ok T.F_L_kept sc_L_kept fun cdv A0 outer s H Ex hg hr => t_L_kept T A cdv A0 outer s H Ex hg hr
  L_kind := fnY_ok T.F_L_kind sc_L_kind fun cdv A0 outer s H Ex hg hr => t_L_kind T A cdv A0 outer s H Ex hg hr
  L_answers := fnY_ok T.F_L_answers sc_L_answers fun cdv A0 outer s H Ex hg hr => t_L_answers T A cdv A0 outer s H Ex hg hr
  L_made := fnY_ok T.F_L_made sc_L_made fun cdv A0 outer s H Ex hg hr => t_L_made T A cdv A0 outer s H Ex hg hr
  L_good := fnY_ok T.F_L_good sc_L_good fun cdv A0 outer s H Ex hg hr => t_L_good T A cdv A0 outer s H Ex hg hr
  law := fnY_ok T.F_law sc_law fun cdv A0 outer s H Ex hg hr => t_law T A cdv A0 outer s H Ex hg hr
  na := fun _ => t_i_NoAnswer T (2 * n + 1)
end K05

set_option maxRecDepth 100000
set_option maxHeartbeats 4000000
namespace K05
open PySem L2 DL
def clN : List Str := ["ModeError", "Script", "NoMachine", "NoAnswer", "NoProgram", "NoBook", "NoModes", "Stuck", "TooMany", "NoText"]
def clA (K : PySem.W.Frag) (c : Nat) : Addr := He.ga K (clN.getD c "ModeError")
def A_i_Script (K : PySem.W.Frag) : Addr := He.ma K (He.ga K "Script") "__init__"
def A_scall (K : PySem.W.Frag) : Addr := He.ma K (He.ga K "Script") "__call__"
def A_asked (K : PySem.W.Frag) : Addr := getOf K (He.ma K (He.ga K "Script") "asked")
def A_are_answers (K : PySem.W.Frag) : Addr := He.ga K "are_answers"
def A_L_begin (K : PySem.W.Frag) : Addr := He.ga K "_law_begin"
def A_L_draw (K : PySem.W.Frag) : Addr := He.ga K "_law_draw"
def A_L_pick (K : PySem.W.Frag) : Addr := He.ga K "_law_pick"
def A_L_word (K : PySem.W.Frag) : Addr := He.ga K "_law_word"
def A_L_kept (K : PySem.W.Frag) : Addr := He.ga K "_law_kept"
def A_L_kind (K : PySem.W.Frag) : Addr := He.ga K "_law_kind"
def A_L_answers (K : PySem.W.Frag) : Addr := He.ga K "_law_answers"
def A_L_made (K : PySem.W.Frag) : Addr := He.ga K "_law_made"
def A_L_good (K : PySem.W.Frag) : Addr := He.ga K "_law_good"
def A_law (K : PySem.W.Frag) : Addr := He.ga K "law"
def A_i_NoAnswer (K : PySem.W.Frag) : Addr := He.ma K (He.ga K "NoAnswer") "__init__"
def adrs (K : PySem.W.Frag) : List Addr := [A_i_Script K, A_scall K, A_asked K, A_are_answers K, A_L_begin K, A_L_draw K, A_L_pick K, A_L_word K, A_L_kept K, A_L_kind K, A_L_answers K, A_L_made K, A_L_good K, A_law K, A_i_NoAnswer K]
def vals : List He.FnW := [fnVal "__init__" "Script.__init__" s_i_Script, fnVal "__call__" "Script.__call__" s_scall, fnVal "asked" "Script.asked" s_asked, fnVal "are_answers" "are_answers" s_are_answers, fnVal "_law_begin" "_law_begin" s_L_begin, fnVal "_law_draw" "_law_draw" s_L_draw, fnVal "_law_pick" "_law_pick" s_L_pick, fnVal "_law_word" "_law_word" s_L_word, fnVal "_law_kept" "_law_kept" s_L_kept, fnVal "_law_kind" "_law_kind" s_L_kind, fnVal "_law_answers" "_law_answers" s_L_answers, fnVal "_law_made" "_law_made" s_L_made, fnVal "_law_good" "_law_good" s_L_good, fnVal "law" "law" s_law, fnVal "__init__" "NoAnswer.__init__" s_i_NoAnswer]
def checks (K : PySem.W.Frag) : List Bool := [
  fnB K (A_i_Script K) "Script.__init__" [.bl true],
  fnB K (A_scall K) "Script.__call__" [],
  fnB K (A_asked K) "Script.asked" [],
  fnB K (A_are_answers K) "are_answers" [],
  gloB K "are_answers",
  fnB K (A_L_begin K) "_law_begin" [],
  gloB K "_law_begin",
  fnB K (A_L_draw K) "_law_draw" [],
  gloB K "_law_draw",
  fnB K (A_L_pick K) "_law_pick" [],
  gloB K "_law_pick",
  fnB K (A_L_word K) "_law_word" [],
  gloB K "_law_word",
  fnB K (A_L_kept K) "_law_kept" [],
  gloB K "_law_kept",
  fnB K (A_L_kind K) "_law_kind" [],
  gloB K "_law_kind",
  fnB K (A_L_answers K) "_law_answers" [],
  gloB K "_law_answers",
  fnB K (A_L_made K) "_law_made" [],
  gloB K "_law_made",
  fnB K (A_L_good K) "_law_good" [],
  gloB K "_law_good",
  fnB K (A_law K) "law" [],
  gloB K "law",
  fnB K (A_i_NoAnswer K) "NoAnswer.__init__" [.non],
  freeB K "ValueError",
  freeB K "abs",
  freeB K "all",
  freeB K "bool",
  freeB K "int",
  freeB K "isinstance",
  freeB K "len",
  freeB K "list",
  freeB K "range",
  freeB K "repr",
  freeB K "set",
  freeB K "sorted",
  freeB K "tuple",
  gloB K "ModeError",
  gloB K "Script",
  gloB K "NoMachine",
  gloB K "NoAnswer",
  gloB K "NoProgram",
  gloB K "NoBook",
  gloB K "NoModes",
  gloB K "Stuck",
  gloB K "TooMany",
  gloB K "NoText",
  mkB K (clA K 1) (A_i_Script K),
  [1].all fun c => clsB K (clA K c) && noatB K (clA K c) "answers",
  [1].all fun c => clsB K (clA K c) && noatB K (clA K c) "rest",
  [1].all fun c => clsB K (clA K c) && noatB K (clA K c) "names",
  [1].all fun c => clsB K (clA K c) && propB K (clA K c) "asked" (He.ma K (He.ga K "Script") "asked") (A_asked K),
  isiB K (clA K) ["int", "bool", "str", "tuple", "list", "dict", "NoneType"] [1] (.ref (clA K 0)) pb_ModeError pc_ModeError,
  isxB K (clA K) exL (.ref (clA K 0)) px_ModeError,
  isiB K (clA K) ["int", "bool", "str", "tuple", "list", "dict", "NoneType"] [1] (.ref (clA K 3)) pb_NoAnswer pc_NoAnswer,
  isxB K (clA K) exL (.ref (clA K 3)) px_NoAnswer,
  isiB K (clA K) ["int", "bool", "str", "tuple", "list", "dict", "NoneType"] [1] (.ref (clA K 5)) pb_NoBook pc_NoBook,
  isxB K (clA K) exL (.ref (clA K 5)) px_NoBook,
  isiB K (clA K) ["int", "bool", "str", "tuple", "list", "dict", "NoneType"] [1] (.ref (clA K 2)) pb_NoMachine pc_NoMachine,
  isxB K (clA K) exL (.ref (clA K 2)) px_NoMachine,
  isiB K (clA K) ["int", "bool", "str", "tuple", "list", "dict", "NoneType"] [1] (.ref (clA K 6)) pb_NoModes pc_NoModes,
  isxB K (clA K) exL (.ref (clA K 6)) px_NoModes,
  isiB K (clA K) ["int", "bool", "str", "tuple", "list", "dict", "NoneType"] [1] (.ref (clA K 4)) pb_NoProgram pc_NoProgram,
  isxB K (clA K) exL (.ref (clA K 4)) px_NoProgram,
  isiB K (clA K) ["int", "bool", "str", "tuple", "list", "dict", "NoneType"] [1] (.ref (clA K 9)) pb_NoText pc_NoText,
  isxB K (clA K) exL (.ref (clA K 9)) px_NoText,
  isiB K (clA K) ["int", "bool", "str", "tuple", "list", "dict", "NoneType"] [1] (.ref (clA K 7)) pb_Stuck pc_Stuck,
  isxB K (clA K) exL (.ref (clA K 7)) px_Stuck,
  isiB K (clA K) ["int", "bool", "str", "tuple", "list", "dict", "NoneType"] [1] (.ref (clA K 8)) pb_TooMany pc_TooMany,
  isxB K (clA K) exL (.ref (clA K 8)) px_TooMany,
  isiB K (clA K) ["int", "bool", "str", "tuple", "list", "dict", "NoneType"] [1] (.type "ValueError") pb_ValueError pc_ValueError,
  isxB K (clA K) exL (.type "ValueError") px_ValueError,
  isiB K (clA K) ["int", "bool", "str", "tuple", "list", "dict", "NoneType"] [1] (.type "bool") pb_bool pc_bool,
  isiB K (clA K) ["int", "bool", "str", "tuple", "list", "dict", "NoneType"] [1] (.type "tuple") pb_tuple pc_tuple,
  ovB K (clA K 0) (.type "type"),
  excNB K (clA K 3) (A_i_NoAnswer K),
  ([3] : List Nat).all fun c => xfnB K (clA K c) "name",
  [1].all fun c => callB K (clA K c) (A_scall K),
  emB K (clA K) exL (.ref (clA K 0)) em_ModeError]
def txtB (K : PySem.W.Frag) : Bool := (checks K).all id
theorem ckd {K : PySem.W.Frag} (h : txtB K = true) (i : Nat) {b : Bool} (e : (checks K)[i]? = some b) : b = true := List.all_eq_true.mp h b (List.mem_of_getElem? e)
theorem okL {c : Nat} (h : okP c = true) : c ∈ [1] := by
  simp only [okP, Bool.and_eq_true, decide_eq_true_eq] at h
  simp
  omega
theorem okTL {t : String} (h : okT t = true) : t ∈ ["int", "bool", "str", "tuple", "list", "dict", "NoneType"] := by
  simpa [okT, or_assoc] using h
theorem exC {c : Nat} {o : Option Bool} {k : Bool} (h : (if c ∈ exL then o else none) = some k) : c ∈ exL := by
  split at h
  · assumption
  · cases h
theorem pcL {c : Nat} {o : Option Bool} {k : Bool} (h : (if okP c = true then o else none) = some k) : c ∈ [1] := by
  split at h
  · exact okL (by assumption)
  · cases h
theorem pbC {t : String} {o : Option Bool} {k : Bool} (h : (if okT t = true then o else none) = some k) : t ∈ ["int", "bool", "str", "tuple", "list", "dict", "NoneType"] := by
  split at h
  · exact okTL (by assumption)
  · cases h
theorem pbL_bool : ∀ T k, pb_bool T = some k → T ∈ ["int", "bool", "str", "tuple", "list", "dict", "NoneType"] := by
  intro T k e
  unfold pb_bool at e
  repeat' split at e
  all_goals first
    | (cases e; done)
    | (subst_vars; simp; done)
    | simp_all
theorem pbL_tuple : ∀ T k, pb_tuple T = some k → T ∈ ["int", "bool", "str", "tuple", "list", "dict", "NoneType"] := by
  intro T k e
  unfold pb_tuple at e
  repeat' split at e
  all_goals first
    | (cases e; done)
    | (subst_vars; simp; done)
    | simp_all
theorem txt_of {K : PySem.W.Frag} {h : Heap} {mg : Str → Option Value} (X : K.In h) (G : h.Ns mainGlobals mg) (c : txtB K = true) (hf : (adrs K).map (fnWA K) = vals) : ∃ T : Txt K mg, T.cl = clA K ∧ T.a_law = A_law K ∧ ∀ (s : Shared) (v : Value), BindsTo s T.d_law ⟨[v], []⟩ [("_law_script", v)] := by
  obtain ⟨d_i_Script, F_i_Script⟩ := funD_of (st := s_i_Script) (Option.some.inj (show some (fnWA K (A_i_Script K)) = some (fnVal "__init__" "Script.__init__" s_i_Script) from congrArg (fun l => l[0]?) hf)) (ckd c 0 rfl)
  obtain ⟨d_scall, F_scall⟩ := funD_of (st := s_scall) (Option.some.inj (show some (fnWA K (A_scall K)) = some (fnVal "__call__" "Script.__call__" s_scall) from congrArg (fun l => l[1]?) hf)) (ckd c 1 rfl)
  obtain ⟨d_asked, F_asked⟩ := funD_of (st := s_asked) (Option.some.inj (show some (fnWA K (A_asked K)) = some (fnVal "asked" "Script.asked" s_asked) from congrArg (fun l => l[2]?) hf)) (ckd c 2 rfl)
  obtain ⟨d_are_answers, F_are_answers⟩ := funD_of (st := s_are_answers) (Option.some.inj (show some (fnWA K (A_are_answers K)) = some (fnVal "are_answers" "are_answers" s_are_answers) from congrArg (fun l => l[3]?) hf)) (ckd c 3 rfl)
  obtain ⟨d_L_begin, F_L_begin⟩ := funD_of (st := s_L_begin) (Option.some.inj (show some (fnWA K (A_L_begin K)) = some (fnVal "_law_begin" "_law_begin" s_L_begin) from congrArg (fun l => l[4]?) hf)) (ckd c 5 rfl)
  obtain ⟨d_L_draw, F_L_draw⟩ := funD_of (st := s_L_draw) (Option.some.inj (show some (fnWA K (A_L_draw K)) = some (fnVal "_law_draw" "_law_draw" s_L_draw) from congrArg (fun l => l[5]?) hf)) (ckd c 7 rfl)
  obtain ⟨d_L_pick, F_L_pick⟩ := funD_of (st := s_L_pick) (Option.some.inj (show some (fnWA K (A_L_pick K)) = some (fnVal "_law_pick" "_law_pick" s_L_pick) from congrArg (fun l => l[6]?) hf)) (ckd c 9 rfl)
  obtain ⟨d_L_word, F_L_word⟩ := funD_of (st := s_L_word) (Option.some.inj (show some (fnWA K (A_L_word K)) = some (fnVal "_law_word" "_law_word" s_L_word) from congrArg (fun l => l[7]?) hf)) (ckd c 11 rfl)
  obtain ⟨d_L_kept, F_L_kept⟩ := funD_of (st := s_L_kept) (Option.some.inj (show some (fnWA K (A_L_kept K)) = some (fnVal "_law_kept" "_law_kept" s_L_kept) from congrArg (fun l => l[8]?) hf)) (ckd c 13 rfl)
  obtain ⟨d_L_kind, F_L_kind⟩ := funD_of (st := s_L_kind) (Option.some.inj (show some (fnWA K (A_L_kind K)) = some (fnVal "_law_kind" "_law_kind" s_L_kind) from congrArg (fun l => l[9]?) hf)) (ckd c 15 rfl)
  obtain ⟨d_L_answers, F_L_answers⟩ := funD_of (st := s_L_answers) (Option.some.inj (show some (fnWA K (A_L_answers K)) = some (fnVal "_law_answers" "_law_answers" s_L_answers) from congrArg (fun l => l[10]?) hf)) (ckd c 17 rfl)
  obtain ⟨d_L_made, F_L_made⟩ := funD_of (st := s_L_made) (Option.some.inj (show some (fnWA K (A_L_made K)) = some (fnVal "_law_made" "_law_made" s_L_made) from congrArg (fun l => l[11]?) hf)) (ckd c 19 rfl)
  obtain ⟨d_L_good, F_L_good⟩ := funD_of (st := s_L_good) (Option.some.inj (show some (fnWA K (A_L_good K)) = some (fnVal "_law_good" "_law_good" s_L_good) from congrArg (fun l => l[12]?) hf)) (ckd c 21 rfl)
  obtain ⟨d_law, F_law⟩ := funD_of (st := s_law) (Option.some.inj (show some (fnWA K (A_law K)) = some (fnVal "law" "law" s_law) from congrArg (fun l => l[13]?) hf)) (ckd c 23 rfl)
  obtain ⟨d_i_NoAnswer, F_i_NoAnswer⟩ := funD_of (st := s_i_NoAnswer) (Option.some.inj (show some (fnWA K (A_i_NoAnswer K)) = some (fnVal "__init__" "NoAnswer.__init__" s_i_NoAnswer) from congrArg (fun l => l[14]?) hf)) (ckd c 25 rfl)
  have b_i_Script : Binds K d_i_Script p_i_Script [] := by
    obtain ⟨ds, r, b⟩ := FunD.binds1 F_i_Script (ps := p_i_Script) 3 1 (by simp) rfl fun T kV doc pm an cdv ct us its h1 h2 => match us, h1, its, h2 with | [_, _, _], _, [_], _ => ⟨_, rfl, rfl⟩
    cases r
    exact b
  obtain ⟨ds_i_Script, dr_i_Script, bd_i_Script⟩ := FunD.binds1 F_i_Script (ps := p_i_Script) 2 0 (by simp) rfl fun T kV doc pm an cdv ct us its h1 h2 => match us, h1, its, h2 with | [_, _], _, [_], _ => ⟨_, rfl, rfl⟩
  have b_scall : Binds K d_scall p_scall [] := (fun_noD F_scall).binds fun _ _ _ _ _ _ us hl => match us, hl with | [_, _], _ => rfl
  have b_asked : Binds K d_asked p_asked [] := (fun_noD F_asked).binds fun _ _ _ _ _ _ us hl => match us, hl with | [_], _ => rfl
  have b_are_answers : Binds K d_are_answers p_are_answers [] := (fun_noD F_are_answers).binds fun _ _ _ _ _ _ us hl => match us, hl with | [_], _ => rfl
  have b_L_begin : Binds K d_L_begin p_L_begin [] := (fun_noD F_L_begin).binds fun _ _ _ _ _ _ us hl => match us, hl with | [_], _ => rfl
  have b_L_draw : Binds K d_L_draw p_L_draw [] := (fun_noD F_L_draw).binds fun _ _ _ _ _ _ us hl => match us, hl with | [_, _], _ => rfl
  have b_L_pick : Binds K d_L_pick p_L_pick [] := (fun_noD F_L_pick).binds fun _ _ _ _ _ _ us hl => match us, hl with | [_, _], _ => rfl
  have b_L_word : Binds K d_L_word p_L_word [] := (fun_noD F_L_word).binds fun _ _ _ _ _ _ us hl => match us, hl with | [_], _ => rfl
  have b_L_kept : Binds K d_L_kept p_L_kept [] := (fun_noD F_L_kept).binds fun _ _ _ _ _ _ us hl => match us, hl with | [], _ => rfl
  have b_L_kind : Binds K d_L_kind p_L_kind [] := (fun_noD F_L_kind).binds fun _ _ _ _ _ _ us hl => match us, hl with | [_], _ => rfl
  have b_L_answers : Binds K d_L_answers p_L_answers [] := (fun_noD F_L_answers).binds fun _ _ _ _ _ _ us hl => match us, hl with | [_, _], _ => rfl
  have b_L_made : Binds K d_L_made p_L_made [] := (fun_noD F_L_made).binds fun _ _ _ _ _ _ us hl => match us, hl with | [_, _], _ => rfl
  have b_L_good : Binds K d_L_good p_L_good [] := (fun_noD F_L_good).binds fun _ _ _ _ _ _ us hl => match us, hl with | [_, _], _ => rfl
  have b_law : Binds K d_law p_law [] := (fun_noD F_law).binds fun _ _ _ _ _ _ us hl => match us, hl with | [_], _ => rfl
  have b_i_NoAnswer : Binds K d_i_NoAnswer p_i_NoAnswer [] := by
    obtain ⟨ds, r, b⟩ := FunD.binds1 F_i_NoAnswer (ps := p_i_NoAnswer) 2 1 (by simp) rfl fun T kV doc pm an cdv ct us its h1 h2 => match us, h1, its, h2 with | [_, _], _, [_], _ => ⟨_, rfl, rfl⟩
    cases r
    exact b
  obtain ⟨ds_i_NoAnswer, dr_i_NoAnswer, bd_i_NoAnswer⟩ := FunD.binds1 F_i_NoAnswer (ps := p_i_NoAnswer) 1 0 (by simp) rfl fun T kV doc pm an cdv ct us its h1 h2 => match us, h1, its, h2 with | [_], _, [_], _ => ⟨_, rfl, rfl⟩
  refine ⟨{
    cl := clA K,
    a_i_Script := A_i_Script K, d_i_Script := d_i_Script, F_i_Script := F_i_Script, k_i_Script := F_i_Script.kp, b_i_Script := b_i_Script, ds_i_Script := ds_i_Script, dr_i_Script := dr_i_Script, bd_i_Script := bd_i_Script,
    a_scall := A_scall K, d_scall := d_scall, F_scall := F_scall, k_scall := F_scall.kp, b_scall := b_scall,
    a_asked := A_asked K, d_asked := d_asked, F_asked := F_asked, k_asked := F_asked.kp, b_asked := b_asked,
    a_are_answers := A_are_answers K, d_are_answers := d_are_answers, F_are_answers := F_are_answers, m_are_answers := gloB_ok X G (ckd c 4 rfl), k_are_answers := F_are_answers.kp, b_are_answers := b_are_answers,
    a_L_begin := A_L_begin K, d_L_begin := d_L_begin, F_L_begin := F_L_begin, m_L_begin := gloB_ok X G (ckd c 6 rfl), k_L_begin := F_L_begin.kp, b_L_begin := b_L_begin,
    a_L_draw := A_L_draw K, d_L_draw := d_L_draw, F_L_draw := F_L_draw, m_L_draw := gloB_ok X G (ckd c 8 rfl), k_L_draw := F_L_draw.kp, b_L_draw := b_L_draw,
    a_L_pick := A_L_pick K, d_L_pick := d_L_pick, F_L_pick := F_L_pick, m_L_pick := gloB_ok X G (ckd c 10 rfl), k_L_pick := F_L_pick.kp, b_L_pick := b_L_pick,
    a_L_word := A_L_word K, d_L_word := d_L_word, F_L_word := F_L_word, m_L_word := gloB_ok X G (ckd c 12 rfl), k_L_word := F_L_word.kp, b_L_word := b_L_word,
    a_L_kept := A_L_kept K, d_L_kept := d_L_kept, F_L_kept := F_L_kept, m_L_kept := gloB_ok X G (ckd c 14 rfl), k_L_kept := F_L_kept.kp, b_L_kept := b_L_kept,
    a_L_kind := A_L_kind K, d_L_kind := d_L_kind, F_L_kind := F_L_kind, m_L_kind := gloB_ok X G (ckd c 16 rfl), k_L_kind := F_L_kind.kp, b_L_kind := b_L_kind,
    a_L_answers := A_L_answers K, d_L_answers := d_L_answers, F_L_answers := F_L_answers, m_L_answers := gloB_ok X G (ckd c 18 rfl), k_L_answers := F_L_answers.kp, b_L_answers := b_L_answers,
    a_L_made := A_L_made K, d_L_made := d_L_made, F_L_made := F_L_made, m_L_made := gloB_ok X G (ckd c 20 rfl), k_L_made := F_L_made.kp, b_L_made := b_L_made,
    a_L_good := A_L_good K, d_L_good := d_L_good, F_L_good := F_L_good, m_L_good := gloB_ok X G (ckd c 22 rfl), k_L_good := F_L_good.kp, b_L_good := b_L_good,
    a_law := A_law K, d_law := d_law, F_law := F_law, m_law := gloB_ok X G (ckd c 24 rfl), k_law := F_law.kp, b_law := b_law,
    a_i_NoAnswer := A_i_NoAnswer K, d_i_NoAnswer := d_i_NoAnswer, F_i_NoAnswer := F_i_NoAnswer, k_i_NoAnswer := F_i_NoAnswer.kp, b_i_NoAnswer := b_i_NoAnswer, ds_i_NoAnswer := ds_i_NoAnswer, dr_i_NoAnswer := dr_i_NoAnswer, bd_i_NoAnswer := bd_i_NoAnswer,
    n_ValueError := freeB_ok X G (ckd c 26 rfl),
    n_abs := freeB_ok X G (ckd c 27 rfl),
    n_all := freeB_ok X G (ckd c 28 rfl),
    n_bool := freeB_ok X G (ckd c 29 rfl),
    n_int := freeB_ok X G (ckd c 30 rfl),
    n_isinstance := freeB_ok X G (ckd c 31 rfl),
    n_len := freeB_ok X G (ckd c 32 rfl),
    n_list := freeB_ok X G (ckd c 33 rfl),
    n_range := freeB_ok X G (ckd c 34 rfl),
    n_repr := freeB_ok X G (ckd c 35 rfl),
    n_set := freeB_ok X G (ckd c 36 rfl),
    n_sorted := freeB_ok X G (ckd c 37 rfl),
    n_tuple := freeB_ok X G (ckd c 38 rfl),
    g_ModeError := gloB_ok X G (ckd c 39 rfl),
    g_Script := gloB_ok X G (ckd c 40 rfl),
    g_NoMachine := gloB_ok X G (ckd c 41 rfl),
    g_NoAnswer := gloB_ok X G (ckd c 42 rfl),
    g_NoProgram := gloB_ok X G (ckd c 43 rfl),
    g_NoBook := gloB_ok X G (ckd c 44 rfl),
    g_NoModes := gloB_ok X G (ckd c 45 rfl),
    g_Stuck := gloB_ok X G (ckd c 46 rfl),
    g_TooMany := gloB_ok X G (ckd c 47 rfl),
    g_NoText := gloB_ok X G (ckd c 48 rfl),
    M_Script := mkB_ok (ckd c 49 rfl),
    a_answers := fun k hk => have q := and2 (List.all_eq_true.mp (ckd c 50 rfl) k (okL hk)); ⟨clsB_ok q.1, noatB_ok q.2⟩,
    a_rest := fun k hk => have q := and2 (List.all_eq_true.mp (ckd c 51 rfl) k (okL hk)); ⟨clsB_ok q.1, noatB_ok q.2⟩,
    a_names := fun k hk => have q := and2 (List.all_eq_true.mp (ckd c 52 rfl) k (okL hk)); ⟨clsB_ok q.1, noatB_ok q.2⟩,
    p_asked := fun k hk => have q := and2 (List.all_eq_true.mp (ckd c 53 rfl) k (okL hk)); ⟨clsB_ok q.1, _, propB_ok q.2⟩,
    i_ModeError := isxB_ok (isiB_ok (fun T k e => pbC e) (fun _ _ e => by cases e) (ckd c 54 rfl)) (fun _ _ e => exC e) (ckd c 55 rfl),
    i_NoAnswer := isxB_ok (isiB_ok (fun T k e => pbC e) (fun _ _ e => by cases e) (ckd c 56 rfl)) (fun _ _ e => exC e) (ckd c 57 rfl),
    i_NoBook := isxB_ok (isiB_ok (fun T k e => pbC e) (fun _ _ e => by cases e) (ckd c 58 rfl)) (fun _ _ e => exC e) (ckd c 59 rfl),
    i_NoMachine := isxB_ok (isiB_ok (fun T k e => pbC e) (fun _ _ e => by cases e) (ckd c 60 rfl)) (fun _ _ e => exC e) (ckd c 61 rfl),
    i_NoModes := isxB_ok (isiB_ok (fun T k e => pbC e) (fun _ _ e => by cases e) (ckd c 62 rfl)) (fun _ _ e => exC e) (ckd c 63 rfl),
    i_NoProgram := isxB_ok (isiB_ok (fun T k e => pbC e) (fun _ _ e => by cases e) (ckd c 64 rfl)) (fun _ _ e => exC e) (ckd c 65 rfl),
    i_NoText := isxB_ok (isiB_ok (fun T k e => pbC e) (fun _ _ e => by cases e) (ckd c 66 rfl)) (fun _ _ e => exC e) (ckd c 67 rfl),
    i_Stuck := isxB_ok (isiB_ok (fun T k e => pbC e) (fun _ _ e => by cases e) (ckd c 68 rfl)) (fun _ _ e => exC e) (ckd c 69 rfl),
    i_TooMany := isxB_ok (isiB_ok (fun T k e => pbC e) (fun _ _ e => by cases e) (ckd c 70 rfl)) (fun _ _ e => exC e) (ckd c 71 rfl),
    i_ValueError := isxB_ok (isiB_ok (fun T k e => pbC e) (fun _ _ e => by cases e) (ckd c 72 rfl)) (fun _ _ e => exC e) (ckd c 73 rfl),
    i_bool := isiB_ok pbL_bool (fun _ _ e => by cases e) (ckd c 74 rfl),
    i_tuple := isiB_ok pbL_tuple (fun _ _ e => by cases e) (ckd c 75 rfl),
    ov_ModeError := ovB_ok (ckd c 76 rfl), xn_NoAnswer := excNB_ok (ckd c 77 rfl),
    xf_name := fun k hk => xfnB_ok (List.all_eq_true.mp (ckd c 78 rfl) k (of_decide_eq_true hk)),
    ca_scall := fun k hk => callB_ok (List.all_eq_true.mp (ckd c 79 rfl) k (okL hk)),
    em_ModeError := emB_ok (fun _ _ e => exC e) (ckd c 80 rfl) }, rfl, rfl, ?_⟩
  exact fun s v => by
    obtain ⟨oc, od, kV, doc, pm, an, cdv, ct, osl, e, _⟩ := (fun_noD F_law).ex
    subst e
    exact .of_eq rfl
end K05

set_option maxRecDepth 100000
namespace K05
open DL
@[simp] theorem go_ok {α T : Type} {ex : D → Store → T} {bd : T} {a : α} {S : Store} {f : α → Store → T} : (R.ok a S).go ex bd f = f a S := rfl
@[simp] theorem go_exc {α T : Type} {ex : D → Store → T} {bd : T} {x : D} {S : Store} {f : α → Store → T} : (R.exc x S).go ex bd f = ex x S := rfl
@[simp] theorem go_bad {α T : Type} {ex : D → Store → T} {bd : T} {f : α → Store → T} : (R.bad : R α).go ex bd f = bd := rfl
def stD (cells : List Int) (rest turn : Int) : D := .dk [(.str "large", .obj 0), (.str "cells", .lst (cells.map D.int)), (.str "rest", .int rest), (.str "turn", .int turn)]
def stS (larges cells : List Int) (rest turn : Int) (X : Store) : Store := .lst (larges.map D.int) :: stD cells rest turn :: X
section
variable {larges cells : List Int} {rest turn : Int} {X : Store}
theorem get_at {ρ : Loc} {x : String} {d : D} (h0 : ρ[0]? = some (some (.obj 1, .bor)) ∨ ρ[0]? = some (some (.obj 1, .sh))) (hd : getK [(D.str "large", .obj 0), (.str "cells", .lst (cells.map D.int)), (.str "rest", .int rest), (.str "turn", .int turn)] (.str x) = some d) :
    sOp2 oDGet (sVar 0) (sCst (.str x)) ρ (stS larges cells rest turn X) = .ok (d, .sh) (stS larges cells rest turn X) := by
  rcases h0 with h0 | h0 <;> simp [sOp2, sVar, sCst, h0, R.bind, oDGet, view, stS, stD, dKey, hd, opt]
theorem gl : getK [(D.str "large", .obj 0), (.str "cells", .lst (cells.map D.int)), (.str "rest", .int rest), (.str "turn", .int turn)] (.str "large") = some (.obj 0) := by simp [getK_cons, deq]
theorem gc : getK [(D.str "large", .obj 0), (.str "cells", .lst (cells.map D.int)), (.str "rest", .int rest), (.str "turn", .int turn)] (.str "cells") = some (.lst (cells.map D.int)) := by simp [getK_cons, deq]
theorem gr : getK [(D.str "large", .obj 0), (.str "cells", .lst (cells.map D.int)), (.str "rest", .int rest), (.str "turn", .int turn)] (.str "rest") = some (.int rest) := by simp [getK_cons, deq]
theorem gt : getK [(D.str "large", .obj 0), (.str "cells", .lst (cells.map D.int)), (.str "rest", .int rest), (.str "turn", .int turn)] (.str "turn") = some (.int turn) := by simp [getK_cons, deq]
end
theorem plains_ints (l : List Int) : plains (l.map D.int) = true := by
  induction l with
  | nil => rfl
  | cons a r ih => simpa [plains, plain] using ih
theorem deps_ints (l : List Int) : deps (l.map D.int) = 0 := by
  induction l with
  | nil => rfl
  | cons a r ih => simp [deps, dep, ih]
def refill : List Int → Int → List Int × Int
  | [], r => ([], r)
  | l :: ls, r => if r = 0 then refill ls l else (l :: ls, r)
abbrev sMore : ST := (tAndS (sT (sOp2 oEq (sOp2 oDGet (sVar 0) (sCst (.str "rest"))) (sCst (.int 0)))) (sT (sOp2 oNe (sOp2 oDGet (sVar 0) (sCst (.str "large"))) (sLst sNil))))
abbrev sPull : SS := (sSeq (sPut (sVar 0) (sCst (.str "rest")) (sPopO (sOp2 oDGet (sVar 0) (sCst (.str "large"))) (sCons (sCst (.int 0)) sNil))) sSkip)
theorem more_eq {ρ : Loc} {larges cells : List Int} {rest turn : Int} {X : Store} (h0 : ρ[0]? = some (some (.obj 1, .bor)) ∨ ρ[0]? = some (some (.obj 1, .sh))) :
    sMore ρ (stS larges cells rest turn X) = .ok (decide (rest = 0 ∧ larges ≠ [])) (stS larges cells rest turn X) := by
  have e1 := get_at (turn := turn) (X := X) (larges := larges) h0 (gr (cells := cells) (rest := rest) (turn := turn))
  have e2 := get_at (turn := turn) (X := X) (larges := larges) h0 (gl (cells := cells) (rest := rest) (turn := turn))
  have a1 : sOp2 oEq (sOp2 oDGet (sVar 0) (sCst (.str "rest"))) (sCst (.int 0)) ρ (stS larges cells rest turn X) = .ok (.bl (rest == 0), .sh) (stS larges cells rest turn X) := by
    rw [sOp2, e1]
    simp [R.bind, sCst, oEq, view, plain, dep, deq, opt]
  have a2 : sOp2 oNe (sOp2 oDGet (sVar 0) (sCst (.str "large"))) (sLst sNil) ρ (stS larges cells rest turn X) = .ok (.bl (!deqs (larges.map D.int) []), .sh) (stS larges cells rest turn X) := by
    rw [sOp2, e2]
    simp [R.bind, sLst, sNil, oNe, view, stS, plain, plains, plains_ints, dep, deps_ints, deq, opt]
  unfold sMore tAndS sT
  rw [a1]
  simp only [R.bind, go_ok]
  rw [a2]
  by_cases hr : rest = 0
  · subst hr
    cases larges <;> simp [deqs]
  · simp [hr]
theorem pull_eq {ρ : Loc} {l : Int} {larges cells : List Int} {turn : Int} {X : Store} (hl : (l :: larges).length < 2 ^ 62) (h0 : ρ[0]? = some (some (.obj 1, .bor)) ∨ ρ[0]? = some (some (.obj 1, .sh))) :
    sPull ρ (stS (l :: larges) cells 0 turn X) = .nx ρ (stS larges cells l turn X) := by
  have e2 := get_at (turn := turn) (X := X) (larges := l :: larges) h0 (gl (cells := cells) (rest := 0) (turn := turn))
  unfold sPull sSeq sPut sPopO
  rw [show (sOp2 oDGet (sVar 0) (sCst (.str "large")) ρ (stS (l :: larges) cells 0 turn X)) = _ from e2]
  have v0 : ∀ S : Store, ∃ fl, sVar 0 ρ S = .ok (.obj 1, fl) S := fun S => by
    rcases h0 with h0 | h0
    · exact ⟨.bor, by simp [sVar, h0]⟩
    · exact ⟨.sh, by simp [sVar, h0]⟩
  obtain ⟨fl, ev⟩ := v0 (stS larges cells 0 turn X)
  have hl' : larges.length + 1 < 2 ^ 62 := by simpa using hl
  have ix : L2.ixN (larges.length + 1) 0 = some 0 := by simp [L2.ixN]
  simp [goS, R.bind, stS, sCons, sCst, sNil, ix, hl', sSkip]
  rw [show sVar 0 ρ (.lst (larges.map D.int) :: stD cells 0 turn :: X) = .ok (.obj 1, fl) _ from ev]
  have h4 : (4 : Nat) < PySem.sizeLine := by decide
  simp [leakOk, dKey, setK, deq, stS, stD, box, h4]
theorem loop_eq {ρ : Loc} (h0 : ρ[0]? = some (some (.obj 1, .bor)) ∨ ρ[0]? = some (some (.obj 1, .sh))) : ∀ {larges cells : List Int} {rest turn : Int} {X : Store}, larges.length < 2 ^ 62 →
    sWhile sMore sPull ρ (stS larges cells rest turn X) = .nx ρ (stS (refill larges rest).1 cells (refill larges rest).2 turn X) := by
  intro larges
  induction larges with
  | nil =>
    intro cells rest turn X _
    rw [sWhile_eq, more_eq h0]
    simp [goS, refill]
  | cons l r ih =>
    intro cells rest turn X hl
    rw [sWhile_eq, more_eq h0]
    by_cases hr : rest = 0
    · subst hr
      simp only [goS, go_ok, ne_eq, reduceCtorEq, not_false_eq_true, and_self, decide_true, if_true]
      rw [pull_eq hl h0]
      simp only []
      rw [ih (by simp at hl; omega)]
      simp [refill]
    · simp [goS, refill, hr]
end K05

set_option maxRecDepth 100000
namespace K05
open DL
theorem bits_le {x : Int} {k : Nat} (h : x.natAbs < 2 ^ k) : PySem.Builtin.Int.intBits x ≤ k := by
  unfold PySem.Builtin.Int.intBits
  split
  · exact Nat.zero_le _
  · rename_i h0
    have h1 : x ≠ 0 := by simpa using h0
    have : x.natAbs ≠ 0 := by omega
    have := (Nat.log2_lt this).mpr h
    omega
structure StOk (larges : List Int) (rest turn T : Int) : Prop where
  ls : ∀ x ∈ larges, 0 ≤ x
  len : larges.length < 2 ^ 62
  r : 0 ≤ rest
  t0 : 0 ≤ turn
  t1 : turn ≤ T
theorem refill_ok : ∀ {larges : List Int} {rest : Int}, (∀ x ∈ larges, 0 ≤ x) → 0 ≤ rest → (∀ x ∈ (refill larges rest).1, 0 ≤ x) ∧ 0 ≤ (refill larges rest).2 ∧ (refill larges rest).1.length ≤ larges.length
  | [], r, _, h => ⟨by simp [refill], h, by simp [refill]⟩
  | l :: ls, r, hl, h => by
    unfold refill
    split
    · have := refill_ok (larges := ls) (rest := l) (fun x hx => hl x (List.mem_cons_of_mem _ hx)) (hl l List.mem_cons_self)
      exact ⟨this.1, this.2.1, Nat.le_succ_of_le this.2.2⟩
    · exact ⟨hl, h, Nat.le_refl _⟩
def mix (cell turn size : Int) : Int := (((cell % 2147483629 + 69621 * turn + 12345) ^ 3 % 2147483647 + 104729 * turn) ^ 5 % 2147483587 / 13) % size
theorem ev2 {op : RV → RV → Store → Option RV} {f u : SE} {ρ : Loc} {S S1 S2 : Store} {a b q : RV} (h1 : f ρ S = .ok a S1) (h2 : u ρ S1 = .ok b S2) (h3 : op a b S2 = some q) : sOp2 op f u ρ S = .ok q S2 := by
  simp [sOp2, R.bind, h1, h2, h3, opt]
theorem evI {f : SE} {ρ : Loc} {S S1 : Store} {i : Int} {fl : Fl} (h : f ρ S = .ok (.int i, fl) S1) : sB1 oInt f ρ S = .ok (.int i, .sh) S1 := by
  simp [sB1, sOpN, sCons, sNil, R.bind, h, on1, oInt, opt]
theorem evC {ρ : Loc} {S : Store} {d : D} : sCst d ρ S = .ok (d, .sh) S := rfl
theorem evV {ρ : Loc} {S : Store} {i : Nat} {d : D} (h : ρ[i]? = some (some (d, .sh))) : sVar i ρ S = .ok (d, .sh) S := by simp [sVar, h]
theorem evVb {ρ : Loc} {S : Store} {i : Nat} {d : D} (h : ρ[i]? = some (some (d, .bor))) : sVar i ρ S = .ok (d, .bor) S := by simp [sVar, h]
theorem oMod_eq {i j : Int} {a b : Fl} {S : Store} (h : 0 < j) : oMod (.int i, a) (.int j, b) S = some (.int (i % j), .sh) := by simp [oMod, oII, view, h]
theorem oFdiv_eq {i j : Int} {a b : Fl} {S : Store} (h : 0 < j) (h2 : j.natAbs.log2 < 9000) : oFdiv (.int i, a) (.int j, b) S = some (.int (i / j), .sh) := by simp [oFdiv, oII, view, h, h2]
theorem oPow_eq {i : Int} {n : Nat} {a b : Fl} {S : Store} (h : i.natAbs < 2 ^ 1000) (hn : n ≤ 20) : oPow (.int i, a) (.int n, b) S = some (.int (i ^ n), .sh) := by
  have hb := bits_le h
  have : (PySem.Builtin.Int.intBits i : Int) * n ≤ 2 ^ 27 := by
    have h1 : PySem.Builtin.Int.intBits i * n ≤ 1000 * 20 := Nat.mul_le_mul hb hn
    have h2 : ((PySem.Builtin.Int.intBits i * n : Nat) : Int) ≤ ((1000 * 20 : Nat) : Int) := Int.ofNat_le.mpr h1
    rw [Int.natCast_mul] at h2
    omega
  have c : CPw i n := ⟨Int.natCast_nonneg n, this⟩
  simp only [oPow, oII, view]
  rw [if_pos c]
  simp
theorem oAdd_eq {i j : Int} {a b : Fl} {S : Store} : oAdd (.int i, a) (.int j, b) S = some (.int (i + j), .sh) := by simp [oAdd, view]
theorem oMul_eq {i j : Int} {a b : Fl} {S : Store} (h : i.natAbs < 2 ^ 1000) (h2 : j.natAbs < 2 ^ 1000) : oMul (.int i, a) (.int j, b) S = some (.int (i * j), .sh) := by
  have lg : ∀ {x : Int}, x.natAbs < 2 ^ 1000 → x.natAbs.log2 < 1000 := fun {x} h => by
    by_cases h0 : x.natAbs = 0
    · rw [h0]; decide
    · exact (Nat.log2_lt h0).mpr h
  have c : CMu i j := by
    have h3 := lg h
    have h4 := lg h2
    show i.natAbs.log2 + j.natAbs.log2 < 1000000
    omega
  simp only [oMul, view]
  rw [if_pos c]
theorem seq_nx {s t : SS} {ρ ρ1 : Loc} {S S1 : Store} (h : s ρ S = .nx ρ1 S1) : sSeq s t ρ S = t ρ1 S1 := by simp [sSeq, h]
theorem seq_rt {s t : SS} {ρ : Loc} {S S1 : Store} {r : RV} (h : s ρ S = .rt r S1) : sSeq s t ρ S = .rt r S1 := by simp [sSeq, h]
theorem ifs {t : ST} {a b : SS} {ρ : Loc} {S S1 : Store} {c : Bool} (h : t ρ S = .ok c S1) : sIfS t a b ρ S = if c = true then a ρ S1 else b ρ S1 := by simp [sIfS, goS, h]
theorem evT {f : SE} {ρ : Loc} {S S1 : Store} {c : Bool} {fl : Fl} (h : f ρ S = .ok (.bl c, fl) S1) : sT f ρ S = .ok c S1 := by simp [sT, R.bind, h]
theorem set_nx {i : Nat} {f : SE} {ρ : Loc} {S S1 : Store} {r : RV} (h : f ρ S = .ok r S1) (l : leakOk r = true) : sSet i f ρ S = .nx (ρ.set i (some (r.1, .sh))) S1 := by simp [sSet, goS, h, l]
theorem ret_rt {f : SE} {ρ : Loc} {S S1 : Store} {r : RV} (h : f ρ S = .ok r S1) (l : leakOk r = true) : sRet f ρ S = .rt (r.1, if r.2 = .own then .own else .sh) S1 := by simp [sRet, goS, h, l]
theorem sk {ρ : Loc} {S : Store} : sSkip ρ S = .nx ρ S := rfl
theorem v0_of {ρ : Loc} (h0 : ρ[0]? = some (some (.obj 1, .bor)) ∨ ρ[0]? = some (some (.obj 1, .sh))) (S : Store) : ∃ fl, sVar 0 ρ S = .ok (.obj 1, fl) S := by
  rcases h0 with h0 | h0
  · exact ⟨.bor, by simp [sVar, h0]⟩
  · exact ⟨.sh, by simp [sVar, h0]⟩
theorem put_rest {ρ : Loc} {larges cells : List Int} {rest turn z : Int} {X : Store} {f : SE} (h0 : ρ[0]? = some (some (.obj 1, .bor)) ∨ ρ[0]? = some (some (.obj 1, .sh))) (h : f ρ (stS larges cells rest turn X) = .ok (.int z, .sh) (stS larges cells rest turn X)) :
    sPut (sVar 0) (sCst (.str "rest")) f ρ (stS larges cells rest turn X) = .nx ρ (stS larges cells z turn X) := by
  obtain ⟨fl, ev⟩ := v0_of h0 (stS larges cells rest turn X)
  have h4 : (4 : Nat) < PySem.sizeLine := by decide
  unfold sPut goS
  rw [h, go_ok, ev, go_ok]
  simp [sCst, leakOk, dKey, setK, deq, stS, stD, box, h4]
theorem put_turn {ρ : Loc} {larges cells : List Int} {rest turn z : Int} {X : Store} {f : SE} (h0 : ρ[0]? = some (some (.obj 1, .bor)) ∨ ρ[0]? = some (some (.obj 1, .sh))) (h : f ρ (stS larges cells rest turn X) = .ok (.int z, .sh) (stS larges cells rest turn X)) :
    sPut (sVar 0) (sCst (.str "turn")) f ρ (stS larges cells rest turn X) = .nx ρ (stS larges cells rest z X) := by
  obtain ⟨fl, ev⟩ := v0_of h0 (stS larges cells rest turn X)
  have h4 : (4 : Nat) < PySem.sizeLine := by decide
  unfold sPut goS
  rw [h, go_ok, ev, go_ok]
  simp [sCst, leakOk, dKey, setK, deq, stS, stD, box, h4]
/-- the cell that a turn looks at -/
def cellOf (cells : List Int) (t : Int) : Int := if cells = [] then 0 else cells.getD (t % (cells.length : Int)).toNat 0
theorem cell_eq {ρ : Loc} {ls cells : List Int} {re t : Int} {X : Store} (h0 : ρ[0]? = some (some (.obj 1, .bor)) ∨ ρ[0]? = some (some (.obj 1, .sh))) (h3 : ρ[3]? = some (some (.int t, .sh))) :
    sIf (sT (sOp2 oNe (sOp2 oDGet (sVar 0) (sCst (.str "cells"))) (sLst sNil))) (sOp2 oIdx (sOp2 oDGet (sVar 0) (sCst (.str "cells"))) (sOp2 oMod (sB1 oInt (sVar 3)) (sB1 oLen (sOp2 oDGet (sVar 0) (sCst (.str "cells")))))) (sCst (.int 0)) ρ (stS ls cells re t X) =
      .ok (.int (cellOf cells t), .sh) (stS ls cells re t X) := by
  have dc : sOp2 oDGet (sVar 0) (sCst (.str "cells")) ρ (stS ls cells re t X) = .ok (.lst (cells.map D.int), .sh) (stS ls cells re t X) := get_at h0 gc
  have ne : sT (sOp2 oNe (sOp2 oDGet (sVar 0) (sCst (.str "cells"))) (sLst sNil)) ρ (stS ls cells re t X) = .ok (!deqs (cells.map D.int) []) (stS ls cells re t X) :=
    evT (fl := .sh) (ev2 dc (show sLst sNil _ _ = .ok (.lst [], .own) _ by simp [sLst, sNil, R.bind]) (by simp [oNe, view, plain, plains, plains_ints, dep, deps_ints, deq]))
  rw [sIf, ne]
  simp only [R.bind, go_ok]
  by_cases hc : cells = []
  · subst hc
    simp [deqs, evC, cellOf]
  · have hb : (!deqs (cells.map D.int) []) = true := by
      cases cells with
      | nil => exact absurd rfl hc
      | cons c r => rfl
    rw [if_pos hb]
    have hpos : (0 : Int) < cells.length := by
      cases cells with
      | nil => exact absurd rfl hc
      | cons c r => simp
    have h1 := Int.emod_lt_of_pos t hpos
    have h2 := Int.emod_nonneg t (show (cells.length : Int) ≠ 0 by omega)
    have ln : sB1 oLen (sOp2 oDGet (sVar 0) (sCst (.str "cells"))) ρ (stS ls cells re t X) = .ok (.int cells.length, .sh) (stS ls cells re t X) := by
      simp [sB1, sOpN, sCons, sNil, R.bind, dc, on1, oLen, view, opt]
    refine ev2 dc (ev2 (evI (evV h3)) ln (oMod_eq hpos)) ?_
    have ix : L2.ixN cells.length (t % (cells.length : Int)) = some (t % (cells.length : Int)).toNat := by
      unfold L2.ixN
      rw [if_pos h2, if_pos h1]
    have hlt : (t % (cells.length : Int)).toNat < cells.length := by omega
    simp [oIdx, view, L2.atI, ix, hlt, cellOf, hc]
/-- one draw -/
theorem draw_ok {E : Sem} {larges cells : List Int} {rest turn size T : Int} {X : Store} {fl f2 : Fl} (hfl : fl = .bor ∨ fl = .sh) (hf2 : f2 = .sh) (ok : StOk larges rest turn T) (hT : T < 2 ^ 40) (hs : 0 < size) (hs2 : size < 2 ^ 40) :
    ∃ r ls' rest' turn', 0 ≤ r ∧ r < size ∧ StOk ls' rest' turn' (T + 1) ∧ bodyY 6 (v_L_draw E) [(.obj 1, fl), (.int size, f2)] (stS larges cells rest turn X) = .ok (.int r, .sh) (stS ls' cells rest' turn' X) := by
  subst hf2
  have hl : ∃ fl', (fl' = .bor ∨ fl' = .sh) ∧ entry 6 [(.obj 1, fl), (.int size, .sh)] = [some (.obj 1, fl'), some (.int size, .sh), none, none, none, none] := by
    rcases hfl with rfl | rfl
    · exact ⟨.bor, .inl rfl, rfl⟩
    · exact ⟨.sh, .inr rfl, rfl⟩
  obtain ⟨fl', hfl', en⟩ := hl
  have h0 : ∀ {a b c d e : Option RV}, ([some (.obj 1, fl'), a, b, c, d, e] : Loc)[0]? = some (some (.obj 1, .bor)) ∨ ([some (.obj 1, fl'), a, b, c, d, e] : Loc)[0]? = some (some (.obj 1, .sh)) := fun {a b c d e} => by
    rcases hfl' with rfl | rfl
    · exact .inl rfl
    · exact .inr rfl
  obtain ⟨ls', rest', hrf⟩ : ∃ ls' rest', refill larges rest = (ls', rest') := ⟨_, _, rfl⟩
  have rok := refill_ok ok.ls ok.r
  rw [hrf] at rok
  obtain ⟨q1, q2, q3⟩ := rok
  have q3 : ls'.length ≤ larges.length := q3
  have q2 : 0 ≤ rest' := q2
  have q1 : ∀ x ∈ ls', 0 ≤ x := q1
  have okl := ok.len
  have t0 := ok.t0
  have t1 := ok.t1
  have lp : sWhile sMore sPull [some (.obj 1, fl'), some (.int size, .sh), none, none, none, none] (stS larges cells rest turn X) = .nx [some (.obj 1, fl'), some (.int size, .sh), none, none, none, none] (stS ls' cells rest' turn X) := by
    rw [loop_eq h0 ok.len, hrf]
  have lg : size.natAbs.log2 < 9000 := by
    have h1 : size.natAbs ≠ 0 := by omega
    have : size.natAbs < 2 ^ 40 := by omega
    have := (Nat.log2_lt h1).mpr this
    omega
  have dr : ∀ {a b c d e : Option RV} {ls cs : List Int} {re tu : Int}, sOp2 oDGet (sVar 0) (sCst (.str "rest")) [some (.obj 1, fl'), a, b, c, d, e] (stS ls cs re tu X) = .ok (.int re, .sh) (stS ls cs re tu X) := fun {a b c d e ls cs re tu} => get_at h0 gr
  by_cases hr : 0 < rest'
  · refine ⟨rest' % size, ls', rest' / size, turn, Int.emod_nonneg _ (by omega), Int.emod_lt_of_pos _ hs, ⟨q1, by omega, Int.ediv_nonneg q2 (by omega), t0, by omega⟩, ?_⟩
    have c1 : sT (sOp2 oGt (sOp2 oDGet (sVar 0) (sCst (.str "rest"))) (sCst (.int 0))) [some (.obj 1, fl'), some (.int size, .sh), none, none, none, none] (stS ls' cells rest' turn X) = .ok true (stS ls' cells rest' turn X) :=
      evT (fl := .sh) (ev2 dr evC (by simp [oGt, oCmp, view, hr]))
    have g1 : sOp2 oMod (sB1 oInt (sOp2 oDGet (sVar 0) (sCst (.str "rest")))) (sVar 1) [some (.obj 1, fl'), some (.int size, .sh), none, none, none, none] (stS ls' cells rest' turn X) = .ok (.int (rest' % size), .sh) (stS ls' cells rest' turn X) :=
      ev2 (evI dr) (evV rfl) (oMod_eq hs)
    have g2 : sOp2 oFdiv (sOp2 oDGet (sVar 0) (sCst (.str "rest"))) (sVar 1) [some (.obj 1, fl'), some (.int size, .sh), some (.int (rest' % size), .sh), none, none, none] (stS ls' cells rest' turn X) = .ok (.int (rest' / size), .sh) (stS ls' cells rest' turn X) :=
      ev2 dr (evV rfl) (oFdiv_eq hs lg)
    have fin : v_L_draw E [some (.obj 1, fl'), some (.int size, .sh), none, none, none, none] (stS larges cells rest turn X) = .rt (.int (rest' % size), .sh) (stS ls' cells (rest' / size) turn X) := by
      unfold v_L_draw
      rw [seq_nx lp]
      refine seq_rt ?_
      rw [ifs c1, if_pos rfl, seq_nx (set_nx g1 rfl)]
      show sSeq _ _ [some (.obj 1, fl'), some (.int size, .sh), some (.int (rest' % size), .sh), none, none, none] _ = _
      rw [seq_nx (put_rest h0 g2)]
      exact seq_rt (ret_rt (evV rfl) rfl)
    unfold bodyY
    rw [en, fin]
  · have r0 : rest' = 0 := by omega
    subst r0
    have dt : ∀ {a b c d e : Option RV} {ls cs : List Int} {re tu : Int}, sOp2 oDGet (sVar 0) (sCst (.str "turn")) [some (.obj 1, fl'), a, b, c, d, e] (stS ls cs re tu X) = .ok (.int tu, .sh) (stS ls cs re tu X) := fun {a b c d e ls cs re tu} => get_at h0 gt
    have dc : ∀ {a b c d e : Option RV} {ls cs : List Int} {re tu : Int}, sOp2 oDGet (sVar 0) (sCst (.str "cells")) [some (.obj 1, fl'), a, b, c, d, e] (stS ls cs re tu X) = .ok (.lst (cs.map D.int), .sh) (stS ls cs re tu X) := fun {a b c d e ls cs re tu} => get_at h0 gc
    have c1 : sT (sOp2 oGt (sOp2 oDGet (sVar 0) (sCst (.str "rest"))) (sCst (.int 0))) [some (.obj 1, fl'), some (.int size, .sh), none, none, none, none] (stS ls' cells 0 turn X) = .ok false (stS ls' cells 0 turn X) :=
      evT (fl := .sh) (ev2 dr evC (by simp [oGt, oCmp, view]))
    have hc0 := Int.emod_nonneg (cellOf cells (turn + 1)) (show (2147483629 : Int) ≠ 0 by decide)
    have hc1 := Int.emod_lt_of_pos (cellOf cells (turn + 1)) (show (0 : Int) < 2147483629 by decide)
    generalize hcv : cellOf cells (turn + 1) = cv at hc0 hc1
    have hm0 := Int.emod_nonneg ((cv % 2147483629 + 69621 * (turn + 1) + 12345) ^ 3) (show (2147483647 : Int) ≠ 0 by decide)
    have hm1 := Int.emod_lt_of_pos ((cv % 2147483629 + 69621 * (turn + 1) + 12345) ^ 3) (show (0 : Int) < 2147483647 by decide)
    generalize hmv : (cv % 2147483629 + 69621 * (turn + 1) + 12345) ^ 3 % 2147483647 = mv at hm0 hm1
    have big : ∀ {z : Int}, 0 ≤ z → z < 2 ^ 80 → z.natAbs < 2 ^ 1000 := fun {z} h1 h2 => Nat.lt_of_lt_of_le (show z.natAbs < 2 ^ 80 by omega) (Nat.pow_le_pow_right (by decide) (by decide))
    have ht : turn < 2 ^ 40 := by omega
    refine ⟨((mv + 104729 * (turn + 1)) ^ 5 % 2147483587 / 13) % size, ls', 0, turn + 1, Int.emod_nonneg _ (by omega), Int.emod_lt_of_pos _ hs, ⟨q1, by omega, Int.le_refl _, by omega, by omega⟩, ?_⟩
    have g3 : sOp2 oAdd (sOp2 oDGet (sVar 0) (sCst (.str "turn"))) (sCst (.int 1)) [some (.obj 1, fl'), some (.int size, .sh), none, none, none, none] (stS ls' cells 0 turn X) = .ok (.int (turn + 1), .sh) (stS ls' cells 0 turn X) :=
      ev2 dt evC oAdd_eq
    have g5 : sOp2 oMod (sB1 oInt (sOp2 oPow (sOp2 oAdd (sOp2 oAdd (sOp2 oMod (sB1 oInt (sVar 4)) (sCst (.int 2147483629))) (sOp2 oMul (sCst (.int 69621)) (sVar 3))) (sCst (.int 12345))) (sCst (.int 3)))) (sCst (.int 2147483647))
        [some (.obj 1, fl'), some (.int size, .sh), none, some (.int (turn + 1), .sh), some (.int cv, .sh), none] (stS ls' cells 0 (turn + 1) X) = .ok (.int mv, .sh) (stS ls' cells 0 (turn + 1) X) := by
      rw [← hmv]
      exact ev2 (evI (ev2 (ev2 (ev2 (ev2 (evI (evV rfl)) evC (oMod_eq (by decide))) (ev2 evC (evV rfl) (oMul_eq (by decide) (big (by omega) (by omega)))) oAdd_eq) evC oAdd_eq) evC (oPow_eq (n := 3) (big (by omega) (by omega)) (by decide)))) evC (oMod_eq (by decide))
    have g6 : sOp2 oMod (sB1 oInt (sOp2 oFdiv (sOp2 oMod (sB1 oInt (sOp2 oPow (sOp2 oAdd (sVar 5) (sOp2 oMul (sCst (.int 104729)) (sVar 3))) (sCst (.int 5)))) (sCst (.int 2147483587))) (sCst (.int 13)))) (sVar 1)
        [some (.obj 1, fl'), some (.int size, .sh), none, some (.int (turn + 1), .sh), some (.int cv, .sh), some (.int mv, .sh)] (stS ls' cells 0 (turn + 1) X) = .ok (.int (((mv + 104729 * (turn + 1)) ^ 5 % 2147483587 / 13) % size), .sh) (stS ls' cells 0 (turn + 1) X) :=
      ev2 (evI (ev2 (ev2 (evI (ev2 (ev2 (evV rfl) (ev2 evC (evV rfl) (oMul_eq (by decide) (big (by omega) (by omega)))) oAdd_eq) evC (oPow_eq (n := 5) (big (by omega) (by omega)) (by decide)))) evC (oMod_eq (by decide))) evC (oFdiv_eq (by decide) (by decide)))) (evV rfl) (oMod_eq hs)
    have fin : v_L_draw E [some (.obj 1, fl'), some (.int size, .sh), none, none, none, none] (stS larges cells rest turn X) = .rt (.int (((mv + 104729 * (turn + 1)) ^ 5 % 2147483587 / 13) % size), .sh) (stS ls' cells 0 (turn + 1) X) := by
      unfold v_L_draw
      rw [seq_nx lp, seq_nx (show sIfS _ _ _ _ _ = .nx _ _ by rw [ifs c1]; rfl), seq_nx (set_nx g3 rfl)]
      show sSeq _ _ [some (.obj 1, fl'), some (.int size, .sh), none, some (.int (turn + 1), .sh), none, none] _ = _
      rw [seq_nx (put_turn h0 (evV rfl)), seq_nx (set_nx (cell_eq h0 rfl) rfl), hcv]
      show sSeq _ _ [some (.obj 1, fl'), some (.int size, .sh), none, some (.int (turn + 1), .sh), some (.int cv, .sh), none] _ = _
      rw [seq_nx (set_nx g5 rfl)]
      exact seq_rt (ret_rt g6 rfl)
    unfold bodyY
    rw [en, fin]
end K05

set_option maxRecDepth 100000
namespace K05
open DL
/-! ### more of the evaluation -/
theorem evArgs1 {f : SE} {ρ : Loc} {S S1 : Store} {r : RV} (h : f ρ S = .ok r S1) : sCons f sNil ρ S = .ok [r] S1 := by simp [sCons, sNil, R.bind, h]
theorem evCons {f : SE} {fs : SA} {ρ : Loc} {S S1 S2 : Store} {r : RV} {rs : List RV} (h : f ρ S = .ok r S1) (h2 : fs ρ S1 = .ok rs S2) : sCons f fs ρ S = .ok (r :: rs) S2 := by simp [sCons, R.bind, h, h2]
theorem evNil {ρ : Loc} {S : Store} : sNil ρ S = .ok [] S := rfl
theorem evCall {np : Nat} {F : SF} {fs : SA} {ρ : Loc} {S S1 S2 : Store} {rs : List RV} {r : RV} (h : fs ρ S = .ok rs S1) (hn : rs.length = np) (hF : F rs S1 = .ok r S2) : sCallY np F [] fs ρ S = .ok r S2 := by
  simp [sCallY, R.bind, h, hn, hF]
theorem evB1 {op : RV → Store → Option RV} {f : SE} {ρ : Loc} {S S1 : Store} {a q : RV} (h : f ρ S = .ok a S1) (hq : op a S1 = some q) : sB1 op f ρ S = .ok q S1 := by simp [sB1, sOpN, sCons, sNil, R.bind, h, on1, hq, opt]
theorem evTup {fs : SA} {ρ : Loc} {S S1 : Store} {rs : List RV} (h : fs ρ S = .ok rs S1) (hl : rs.all leakOk = true) (hn : rs.length ≤ PySem.sizeLine) : sTup fs ρ S = .ok (.tup (rs.map (·.1)), .sh) S1 := by simp [sTup, R.bind, h, hl, hn]
theorem evLst {fs : SA} {ρ : Loc} {S S1 : Store} {rs : List RV} (h : fs ρ S = .ok rs S1) (hl : rs.all leakOk = true) (hn : rs.length ≤ PySem.sizeLine) : sLst fs ρ S = .ok (.lst (rs.map (·.1)), .own) S1 := by simp [sLst, R.bind, h, hl, hn]
theorem evIf {t : ST} {f g : SE} {ρ : Loc} {S S1 : Store} {c : Bool} (h : t ρ S = .ok c S1) : sIf t f g ρ S = if c = true then f ρ S1 else g ρ S1 := by simp [sIf, R.bind, h]
theorem small {n : Nat} (h : n ≤ 1000000) : n ≤ PySem.sizeLine := Nat.le_trans h (by decide)
theorem small' {n : Nat} (h : n ≤ 1000000) : n < PySem.sizeLine := Nat.lt_of_le_of_lt h (by decide)
/-! ### the state of the draws -/
def St (S : Store) (X : Store) (T : Int) : Prop := ∃ ls cells rest turn, S = stS ls cells rest turn X ∧ StOk ls rest turn T
theorem St.more {S X : Store} {T T' : Int} (h : St S X T) (l : T ≤ T') : St S X T' := by
  obtain ⟨ls, cells, rest, turn, e, o⟩ := h
  exact ⟨ls, cells, rest, turn, e, o.ls, o.len, o.r, o.t0, Int.le_trans o.t1 l⟩
def lim : Int := 1000000000
/-- the state as an argument -/
def Sarg (fl : Fl) : Prop := fl = .bor ∨ fl = .sh
def DrawOk (F : SF) : Prop := ∀ (S X : Store) (T size : Int) (fl : Fl), Sarg fl → St S X T → T < lim → 0 < size → size < 2 ^ 40 → ∃ r S', 0 ≤ r ∧ r < size ∧ St S' X (T + 1) ∧ F [(.obj 1, fl), (.int size, .sh)] S = .ok (.int r, .sh) S'
theorem draw_sem (E : Sem) : DrawOk (step E).L_draw := by
  intro S X T size fl hfl ⟨ls, cells, rest, turn, e, o⟩ hT hs hs2
  subst e
  obtain ⟨r, ls', rest', turn', h1, h2, h3, h4⟩ := draw_ok (E := E) (cells := cells) (X := X) hfl rfl o (by unfold lim at hT; omega) hs hs2
  exact ⟨r, _, h1, h2, ⟨ls', cells, rest', turn', rfl, h3⟩, h4⟩
/-- the items of a row -/
def itemsD : D → Option (List D)
  | .lst ds => some ds
  | .tup ds => some ds
  | .str x => some (signs x)
  | _ => none
theorem len_items {d : D} {its : List D} {fl : Fl} {S : Store} (h : itemsD d = some its) (hz : its.length ≤ 1000000) : oLen (d, fl) S = some (.int its.length, .sh) := by
  cases d with
  | lst ds => cases h; simp [oLen, view]
  | tup ds => cases h; simp [oLen, view]
  | str x =>
    cases h
    have hl : (signs x).length = x.length := by unfold signs; rw [List.length_map, String.length_toList]
    rw [hl] at hz ⊢
    have : x.length ≤ PySem.sizeLine := small hz
    simp [oLen, view, this]
  | _ => cases h
theorem atI_nn {α : Type} {l : List α} {i : Int} (h0 : 0 ≤ i) (h1 : i < l.length) : ∃ a, a ∈ l ∧ L2.atI l i = some a := by
  have hl : i.toNat < l.length := by omega
  refine ⟨l[i.toNat], List.getElem_mem hl, ?_⟩
  unfold L2.atI L2.ixN
  rw [if_pos h0, if_pos h1]
  simp [hl]
theorem idx_items {d : D} {its : List D} {fl : Fl} {S : Store} {i : Int} (h : itemsD d = some its) (hz : its.length ≤ 1000000) (h0 : 0 ≤ i) (h1 : i < its.length) : ∃ a, a ∈ its ∧ oIdx (d, fl) (.int i, .sh) S = some (a, .sh) := by
  cases d with
  | lst ds =>
    cases h
    obtain ⟨a, ha, e⟩ := atI_nn h0 h1
    exact ⟨a, ha, by simp [oIdx, view, e]⟩
  | tup ds =>
    cases h
    obtain ⟨a, ha, e⟩ := atI_nn h0 h1
    exact ⟨a, ha, by simp [oIdx, view, e]⟩
  | str x =>
    cases h
    have hl : (signs x).length = x.length := by unfold signs; rw [List.length_map, String.length_toList]
    have hz' : x.length ≤ PySem.sizeLine := small (by rw [← hl]; exact hz)
    have h2 : i < x.toList.length := by rw [String.length_toList, ← hl]; exact h1
    obtain ⟨a, ha, e⟩ := atI_nn h0 h2
    refine ⟨.str (String.singleton a), ?_, by simp [oIdx, view, hz', e]⟩
    unfold signs
    exact List.mem_map.mpr ⟨a, ha, rfl⟩
  | _ => cases h
def PickOk (F : SF) : Prop := ∀ (S X : Store) (T : Int) (fl f2 : Fl) (d : D) (its : List D), Sarg fl → St S X T → T < lim → itemsD d = some its → 0 < its.length → its.length ≤ 1000000 →
  ∃ a S', a ∈ its ∧ St S' X (T + 1) ∧ F [(.obj 1, fl), (d, f2)] S = .ok (a, .sh) S'
theorem lend_st {fl : Fl} (h : Sarg fl) : Sarg (lend fl) := by rcases h with rfl | rfl; exact .inl rfl; exact .inr rfl
theorem evVar {ρ : Loc} {S : Store} {i : Nat} {d : D} {fl : Fl} (h : ρ[i]? = some (some (d, fl))) (hf : Sarg fl) : sVar i ρ S = .ok (d, fl) S := by
  rcases hf with rfl | rfl <;> simp [sVar, h]
theorem lend_any (fl : Fl) : Sarg (lend fl) := by cases fl; exact .inr rfl; exact .inr rfl; exact .inl rfl; exact .inl rfl
theorem body_rt {n : Nat} {b : SS} {rs : List RV} {S S' : Store} {r : RV} (h : b (entry n rs) S = .rt r S') : bodyY n b rs S = .ok r S' := by simp [bodyY, h]
theorem pick_sem {E : Sem} (hd : DrawOk E.L_draw) : PickOk (step E).L_pick := by
  intro S X T fl f2 d its hfl hS hT hi h0 hz
  obtain ⟨r, S', r0, r1, hS', e⟩ := hd S X T its.length (lend fl) (lend_st hfl) hS hT (by omega) (by omega)
  obtain ⟨a, ha, ea⟩ := idx_items (fl := lend f2) (S := S') hi hz r0 r1
  refine ⟨a, S', ha, hS', body_rt ?_⟩
  have en : entry 2 [(.obj 1, fl), (d, f2)] = [some (.obj 1, lend fl), some (d, lend f2)] := rfl
  unfold v_L_pick
  rw [en]
  refine seq_rt (ret_rt (r := (a, .sh)) (ev2 (evVar rfl (lend_any f2)) (evCall (evCons (evVar rfl (lend_st hfl)) (evArgs1 (evB1 (evVar rfl (lend_any f2)) (len_items hi hz)))) rfl e) ea) (by simp [leakOk]))
end K05

set_option maxRecDepth 100000
namespace K05
open DL
/-! ### names -/
def letters : String := "abcdefghijklmnopqrstuvwxyz"
def keptL : List String := ["ask", "do", "else", "end", "go", "if", "not", "pass", "piece", "return", "true", "while"]
def nameB (x : String) : Bool := decide (1 ≤ x.length) && decide (x.length ≤ 8) && x.toList.all (fun c => decide (c ∈ letters.toList)) && decide (x ∉ keptL)
/-- a walk of a comprehension whose element moves the state -/
theorem lc_run {i : Nat} {f : SE} {ρ : Loc} (N : Nat) (P : Nat → Store → Prop) (Q : D → Prop) : ∀ (ds : List D), (∀ k d S, d ∈ ds → k < N → P k S → ∃ r S', f (ρ.set i (some (d, .sh))) S = .ok r S' ∧ leakOk r = true ∧ Q r.1 ∧ P (k + 1) S') → ∀ k S, k + ds.length ≤ N → P k S →
    ∃ rs S', lcI (gNm i) sYes f ρ ds S = .ok rs S' ∧ rs.length = ds.length ∧ (∀ r ∈ rs, Q r) ∧ P (k + ds.length) S'
  | [], _, k, S, _, h => ⟨[], S, rfl, rfl, (fun _ q => by cases q), h⟩
  | d :: ds, hf, k, S, hN, h => by
    rw [List.length_cons] at hN
    obtain ⟨r, S1, e1, l, q, p⟩ := hf k d S List.mem_cons_self (by omega) h
    obtain ⟨rs, S2, e2, hl, hq, p2⟩ := lc_run N P Q ds (fun k d S m => hf k d S (List.mem_cons_of_mem _ m)) (k + 1) S1 (by omega) p
    refine ⟨r.1 :: rs, S2, ?_, by simp [hl], fun x hx => ?_, by rw [List.length_cons, show k + (ds.length + 1) = k + 1 + ds.length by omega]; exact p2⟩
    · simp [lcI, gNm, sYes, e1, l, R.bind, e2]
    · rcases List.mem_cons.mp hx with rfl | hx
      · exact q
      · exact hq x hx
theorem evLc {fi : SI} {t : Tgt} {c : ST} {f : SE} {vs : List Nat} {ρ : Loc} {S S1 S2 : Store} {ds rs : List D} (h : fi ρ S = .ok ds S1) (hl : ds.length ≤ 1000000) (h2 : lcI t c f (wipeL ρ vs) ds S1 = .ok rs S2) : sLc fi t c f vs ρ S = .ok (.lst rs, .own) S2 := by
  have : ds.length < PySem.sizeLine := small' hl
  simp [sLc, R.bind, h, this, h2]
theorem evRng1 {fs : SA} {ρ : Loc} {S S1 : Store} {j : Int} {fl : Fl} (h : fs ρ S = .ok [(.int j, fl)] S1) (h0 : -(2 ^ 62) ≤ j) (h1 : j < 2 ^ 62) : sRng1 fs ρ S = .ok (rngD 0 j.toNat) S1 := by
  simp only [sRng1, R.bind, h, go_ok]
  rw [if_pos ⟨h0, h1⟩]
theorem rng_len {lo : Int} {n : Nat} : (rngD lo n).length = n := by simp [rngD]
theorem joinS_toList : ∀ cs : List Char, (joinS "" (cs.map String.singleton)).toList = cs
  | [] => rfl
  | [c] => by simp [joinS]
  | c :: d :: r => by
    have := joinS_toList (d :: r)
    simp only [List.map_cons] at this ⊢
    rw [joinS, String.toList_append, String.toList_append, this]
    simp
theorem strs_singles : ∀ {rs : List D}, (∀ r ∈ rs, ∃ c, c ∈ letters.toList ∧ r = .str (String.singleton c)) → ∃ cs : List Char, strsD rs = some (cs.map String.singleton) ∧ cs.length = rs.length ∧ ∀ c ∈ cs, c ∈ letters.toList
  | [], _ => ⟨[], rfl, rfl, fun _ q => by cases q⟩
  | r :: rs, h => by
    obtain ⟨c, hc, e⟩ := h r List.mem_cons_self
    obtain ⟨cs, e1, e2, e3⟩ := strs_singles (rs := rs) fun x hx => h x (List.mem_cons_of_mem _ hx)
    subst e
    refine ⟨c :: cs, by simp [strsD, e1], by simp [e2], fun x hx => ?_⟩
    rcases List.mem_cons.mp hx with rfl | hx
    · exact hc
    · exact e3 x hx
theorem evJoin {f g : SE} {ρ : Loc} {S S1 S2 : Store} {x : String} {fl fl2 : Fl} {rs : List D} {ys : List String} (h : f ρ S = .ok (.str x, fl) S1) (h2 : g ρ S1 = .ok (.lst rs, fl2) S2) (e : strsD rs = some ys) (hz : (ys.map (·.length)).sum + ys.length * x.length ≤ 16777216) :
    sJoin f g ρ S = .ok (.str (joinS x ys), .sh) S2 := by
  simp [sJoin, R.bind, h, h2, view, rowOf, e, hz]
theorem plains_strs : ∀ l : List String, plains (l.map D.str) = true
  | [] => rfl
  | _ :: r => by simp [plains, plain, plains_strs r]
theorem mem_strs {x : String} : ∀ l : List String, memD (.str x) (l.map D.str) = decide (x ∈ l)
  | [] => by simp [memD]
  | y :: r => by
    have ih := mem_strs (x := x) r
    unfold memD at ih ⊢
    simp only [List.map_cons, List.any_cons, ih, deq, List.mem_cons]
    by_cases h : y = x
    · subst h; simp
    · have h' : ¬ x = y := fun q => h q.symm
      simp [h, h']
def KeptOk (F : SF) : Prop := ∀ S, F [] S = .ok (.lst (keptL.map D.str), .own) S
theorem kept_sem (E : Sem) : KeptOk (step E).L_kept := by
  intro S
  show bodyY 0 (v_L_kept E) [] S = _
  refine body_rt ?_
  unfold v_L_kept
  exact seq_rt (ret_rt (r := (.lst (keptL.map D.str), .own)) (evLst (rs := keptL.map fun x => (.str x, .sh)) rfl (by decide) (by decide)) rfl)
def WordF (F : SF) : Prop := ∀ (S X : Store) (T : Int) (fl : Fl), Sarg fl → St S X T → T + 20 < lim → ∃ x S', nameB x = true ∧ St S' X (T + 20) ∧ F [(.obj 1, fl)] S = .ok (.str x, .sh) S'
theorem nameB_of {cs : List Char} (h1 : 1 ≤ cs.length) (h8 : cs.length ≤ 8) (hc : ∀ c ∈ cs, c ∈ letters.toList) (hk : joinS "" (cs.map String.singleton) ∉ keptL) : nameB (joinS "" (cs.map String.singleton)) = true := by
  have tl := joinS_toList cs
  have hl : (joinS "" (cs.map String.singleton)).length = cs.length := by rw [← String.length_toList, tl]
  unfold nameB
  rw [hl, tl]
  simp only [Bool.and_eq_true, decide_eq_true_eq, List.all_eq_true]
  exact ⟨⟨⟨h1, h8⟩, hc⟩, hk⟩
theorem sum_ones (cs : List Char) : ((cs.map String.singleton).map (·.length)).sum = cs.length := by
  induction cs with
  | nil => rfl
  | cons c r ih => simp at ih ⊢; omega
theorem oLt_i {i j : Int} {a b : Fl} {S : Store} : oLt (.int i, a) (.int j, b) S = some (.bl (decide (i < j)), .sh) := by simp [oLt, view]
theorem oEq_i {i j : Int} {a b : Fl} {S : Store} : oEq (.int i, a) (.int j, b) S = some (.bl (decide (i = j)), .sh) := by
  by_cases h : i = j <;> simp [oEq, view, plain, dep, deq, h]
theorem skip_if {t : ST} {a : SS} {ρ : Loc} {S S1 : Store} (h : t ρ S = .ok false S1) : sIfS t a sSkip ρ S = .nx ρ S1 := by rw [ifs h]; rfl
theorem word_sem {E : Sem} (hd : DrawOk E.L_draw) (hp : PickOk E.L_pick) (hk : KeptOk E.L_kept) : WordF (step E).L_word := by
  intro S X T fl hfl hS hT
  show ∃ x S', _ ∧ _ ∧ bodyY 5 (v_L_word E) [(.obj 1, fl)] S = _
  have en : entry 5 [(.obj 1, fl)] = [some (.obj 1, lend fl), none, none, none, none] := rfl
  have lf := lend_st hfl
  unfold lim at hT
  obtain ⟨w, S1, w0, w1, hS1, e1⟩ := hd S X T 6 (lend fl) lf hS (by unfold lim; omega) (by decide) (by decide)
  have s1 : sSet 1 (sCallY 2 E.L_draw [] (sCons (sVar 0) (sCons (sCst (.int 6)) sNil))) [some (.obj 1, lend fl), none, none, none, none] S = .nx [some (.obj 1, lend fl), some (.int w, .sh), none, none, none] S1 :=
    set_nx (evCall (evCons (evVar rfl lf) (evArgs1 evC)) rfl e1) (by simp [leakOk])
  by_cases hw : w < 3
  · obtain ⟨a, S2, ha, hS2, e2⟩ := hp S1 X (T + 1) (lend fl) .own (.lst [.str "a", .str "b", .str "p", .str "q"]) _ lf hS1 (by unfold lim; omega) rfl (by decide) (by decide)
    have an : ∃ x, nameB x = true ∧ a = .str x := by
      simp only [List.mem_cons, List.not_mem_nil, or_false] at ha
      rcases ha with rfl | rfl | rfl | rfl <;> exact ⟨_, by decide, rfl⟩
    obtain ⟨x, hx, rfl⟩ := an
    refine ⟨x, S2, hx, hS2.more (by omega), body_rt ?_⟩
    rw [en]
    unfold v_L_word
    rw [seq_nx s1]
    refine seq_rt ?_
    rw [ifs (evT (fl := .sh) (ev2 (evVar rfl (.inr rfl)) evC oLt_i)), if_pos (by simpa using hw)]
    exact seq_rt (ret_rt (r := (.str x, .sh)) (evCall (evCons (evVar rfl lf) (evArgs1 (evLst (rs := [(.str "a", .sh), (.str "b", .sh), (.str "p", .sh), (.str "q", .sh)]) rfl rfl (by decide)))) rfl e2) rfl)
  have c1 : sT (sOp2 oLt (sVar 1) (sCst (.int 3))) [some (.obj 1, lend fl), some (.int w, .sh), none, none, none] S1 = .ok false S1 := by
    have : decide (w < 3) = false := by simpa using hw
    rw [← this]
    exact evT (fl := .sh) (ev2 (evVar rfl (.inr rfl)) evC oLt_i)
  by_cases hw3 : w = 3
  · obtain ⟨a, S2, ha, hS2, e2⟩ := hp S1 X (T + 1) (lend fl) .own (.lst ((["asks", "dos", "elsex", "ends", "gone", "iff", "nota", "passe", "row", "on", "yes"]).map D.str)) _ lf hS1 (by unfold lim; omega) rfl (by decide) (by decide)
    have an : ∃ x, nameB x = true ∧ a = .str x := by
      obtain ⟨x, hx, rfl⟩ := List.mem_map.mp ha
      refine ⟨x, ?_, rfl⟩
      have all : ∀ x ∈ ["asks", "dos", "elsex", "ends", "gone", "iff", "nota", "passe", "row", "on", "yes"], nameB x = true := by decide +kernel
      exact all x hx
    obtain ⟨x, hx, rfl⟩ := an
    refine ⟨x, S2, hx, hS2.more (by omega), body_rt ?_⟩
    rw [en]
    unfold v_L_word
    rw [seq_nx s1, seq_nx (skip_if c1)]
    refine seq_rt ?_
    rw [ifs (evT (fl := .sh) (ev2 (evVar rfl (.inr rfl)) evC oEq_i)), if_pos (by simpa using hw3)]
    exact seq_rt (ret_rt (r := (.str x, .sh)) (evCall (evCons (evVar rfl lf) (evArgs1 (evLst (rs := (["asks", "dos", "elsex", "ends", "gone", "iff", "nota", "passe", "row", "on", "yes"]).map fun x => (.str x, .sh)) rfl rfl (by decide)))) rfl e2) rfl)
  · have c2 : sT (sOp2 oEq (sVar 1) (sCst (.int 3))) [some (.obj 1, lend fl), some (.int w, .sh), none, none, none] S1 = .ok false S1 := by
      have : decide (w = 3) = false := by simpa using hw3
      rw [← this]
      exact evT (fl := .sh) (ev2 (evVar rfl (.inr rfl)) evC oEq_i)
    obtain ⟨k, S2, k0, k1, hS2, e2⟩ := hd S1 X (T + 1) 8 (lend fl) lf hS1 (by unfold lim; omega) (by decide) (by decide)
    obtain ⟨rs, S3, e3, l3, q3, hS3⟩ := lc_run (i := 4) (f := sCallY 2 E.L_pick [] (sCons (sVar 0) (sCons (sVar 2) sNil))) (ρ := [some (.obj 1, lend fl), some (.int w, .sh), some (.str letters, .sh), none, none])
      8 (fun j S => St S X (T + 2 + j)) (fun r => ∃ c, c ∈ letters.toList ∧ r = .str (String.singleton c)) (rngD 0 (1 + k).toNat) (fun j d S hm hj h => by
        obtain ⟨a, S', ha, hS', e⟩ := hp S X (T + 2 + j) (lend fl) .sh (.str letters) _ lf h (by unfold lim; omega) rfl (by decide) (by decide)
        refine ⟨(a, .sh), S', evCall (evCons (evVar rfl lf) (evArgs1 (evVar rfl (.inr rfl)))) rfl e, by simp [leakOk], ?_, by simpa [Int.add_assoc] using hS'⟩
        obtain ⟨c, hc, rfl⟩ := List.mem_map.mp ha
        exact ⟨c, hc, rfl⟩) 0 S2 (by rw [rng_len]; omega) (hS2.more (by omega))
    rw [rng_len] at l3 hS3
    obtain ⟨cs, hcs, lcs, acs⟩ := strs_singles q3
    have lk : cs.length = (1 + k).toNat := by rw [lcs, l3]
    have hS3' : St S3 X (T + 12) := hS3.more (by omega)
    have ej : sJoin (sCst (.str "")) (sLc (sRng1 (sCons (sOp2 oAdd (sCst (.int 1)) (sCallY 2 E.L_draw [] (sCons (sVar 0) (sCons (sCst (.int 8)) sNil)))) sNil)) (gNm 4) sYes (sCallY 2 E.L_pick [] (sCons (sVar 0) (sCons (sVar 2) sNil))) [4])
        [some (.obj 1, lend fl), some (.int w, .sh), some (.str letters, .sh), none, none] S1 = .ok (.str (joinS "" (cs.map String.singleton)), .sh) S3 := by
      refine evJoin evC (evLc (evRng1 (evArgs1 (ev2 evC (evCall (evCons (evVar rfl lf) (evArgs1 evC)) rfl e2) oAdd_eq)) (by omega) (by omega)) (by rw [rng_len]; omega) e3) hcs ?_
      rw [sum_ones, List.length_map]
      have : ("" : String).length = 0 := rfl
      rw [this]
      omega
    have kin : ∀ x : String, sT (sOp2 oIn (sVar 3) (sCallY 0 E.L_kept [] sNil)) [some (.obj 1, lend fl), some (.int w, .sh), some (.str letters, .sh), some (.str x, .sh), none] S3 = .ok (decide (x ∈ keptL)) S3 := fun x => by
      refine evT (fl := .sh) (ev2 (evVar rfl (.inr rfl)) (evCall evNil rfl (hk S3)) ?_)
      simp [oIn, oInG, view, inSeq, plains_strs, mem_strs, plain, dep]
    have fin : ∀ (x : String), joinS "" (cs.map String.singleton) = x → ∃ y, nameB y = true ∧ sIf (sT (sOp2 oIn (sVar 3) (sCallY 0 E.L_kept [] sNil))) (sOp2 oAdd (sCst (.str "z")) (sSl (sVar 3) (sPart (sCst (.int 1))) sNoPart)) (sVar 3) [some (.obj 1, lend fl), some (.int w, .sh), some (.str letters, .sh), some (.str x, .sh), none] S3 = .ok (.str y, .sh) S3 := fun x ex => by
      rw [evIf (kin x)]
      by_cases hx : x ∈ keptL
      · rw [if_pos (by simpa using hx)]
        have all : ∀ x ∈ keptL, nameB ("z" ++ String.ofList (cutD x.toList (some 1) none)) = true ∧ x.length ≤ 100 ∧ ("z" : String).length + (String.ofList (cutD x.toList (some 1) none)).length ≤ 100 := by decide +kernel
        refine ⟨"z" ++ String.ofList (cutD x.toList (some 1) none), (all x hx).1, ev2 evC (b := (.str (String.ofList (cutD x.toList (some 1) none)), .sh)) (S2 := S3) ?_ ?_⟩
        · have hl := (all x hx).2.1
          simp only [sSl, sPart, sNoPart, sCst, R.bind, go_ok]
          rw [evVar (fl := .sh) rfl (.inr rfl)]
          simp only [go_ok, oSl, view]
          rw [if_pos (small (by omega))]
          rfl
        · simp only [oAdd, view]
          rw [if_pos (small (by have := (all x hx).2.2; omega))]
      · rw [if_neg (by simpa using hx)]
        refine ⟨x, ?_, evVar rfl (.inr rfl)⟩
        subst ex
        exact nameB_of (by omega) (by omega) acs hx
    obtain ⟨y, hy, ey⟩ := fin _ rfl
    refine ⟨y, S3, hy, hS3'.more (by omega), body_rt ?_⟩
    rw [en]
    unfold v_L_word
    rw [seq_nx s1, seq_nx (skip_if c1), seq_nx (skip_if c2), seq_nx (set_nx evC rfl)]
    show sSeq _ _ [some (.obj 1, lend fl), some (.int w, .sh), some (.str letters, .sh), none, none] _ = _
    rw [seq_nx (set_nx ej rfl)]
    exact seq_rt (ret_rt ey rfl)
end K05

set_option maxRecDepth 100000
set_option maxHeartbeats 4000000
namespace K05
open DL DE
local macro_rules | `(tactic| walk_at "ev") => `(tactic| try simp only [↓w_look, ↓w_opt_some, ↓w_cst, ↓w_nil, ↓w_cons, ↓w_tup, ↓w_lst, ↓w_T, ↓w_if, ↓DE.w_and, ↓DE.w_or, ↓w_not, ↓w_tand, ↓w_tor, ↓w_tnot, ↓w_op2, ↓w_op1, ↓w_opN, ↓w_b1, ↓w_b2, ↓w_chain, ↓w_call, ↓w_callY, ↓w_makeY, ↓w_meth, ↓w_itemO, ↓w_upper, ↓w_cntB, ↓w_idxB, ↓w_lstRg1, ↓w_tupRg1, ↓w_bodyY, ↓w_initY, ↓w_make, ↓w_prop, ↓w_own2, ↓w_eqO, ↓w_neO, ↓w_appO, ↓w_dictE, ↓w_fld, ↓w_lenO, ↓w_isi, ↓w_new, ↓w_noPart, ↓w_part, ↓w_sl, ↓w_seqI, ↓w_rng1, ↓w_lc, ↓w_lc0, ↓w_lc1, ↓w_dict0, ↓w_dict1, ↓w_dict, ↓w_get2, ↓w_join, ↓o_skip, ↓o_seq, ↓o_drop, ↓o_ret, ↓o_retN, ↓o_set, ↓o_own, ↓o_if, ↓o_asg, ↓o_par, ↓o_for, ↓o_for0, ↓o_forN, ↓o_put, ↓o_fldS, ↓w_body, ↓w_init, en0, self_eq, put_held, List.length_nil, ↓w_ok, ↓o_nx,
  lk_sh, lk_own, lk_int, lk_str, lk_tup, lk_bl, lk_non, lk_obj, all_nil, all_cons, v_int, v_bl, v_str, v_tup, v_lst, v_non, v_ins, v_dk, a_int, a_lst, a_tup, a_str, s_int, lt_int, le_int, gt_int, ge_int, m_lst, m_tup, len_tup, len_lst, ix_tup, ix_lst, at_0, at_1, at_2, at_3, q_str, q_int, nq_int, nq_bl, tupOf_lst, tupOf_tup, lstOf_lst, lstOf_tup, int_int, int_bl, max_int, min_int, asB_bl, asI_int, asIns_ins, two_eq, asDk_dk, key_str, key_int, Int.cast_ofNat_Int, Int.natCast_one, Int.natCast_zero, one_eq, rng1_eq, seqOf_own, seqOf_sh, seqOf_bor, seqOf_tup, seqOf_str, asObj_obj, asStr_str, oneB_eq, revT_eq, lend_ret, asLst_lst, notR_bl,
  look0, looks, look1_sh, look1_bor, look1_own, look1_lend, lend2, lend_sh, lend_own, lend_bor, lend_mine, en_nil, en_cons, wi_nil, wi_cons, List.set_cons_zero, List.set_cons_succ, List.replicate_zero, List.replicate_succ, List.append_nil, List.nil_append, List.cons_append, List.map_cons, List.map_nil, List.length_cons, List.length_nil, Nat.reduceAdd, Nat.reduceLeDiff, sz_le, sz_lt, Option.map_some, Option.map_none, Option.some.injEq, exists_eq_left', Bool.and_true, Bool.true_and, in2, in3, in4, nin2, nq_str, cut21h, sl42, sl43, sl21, sl22, sl11, sl4h2, sl4h3, any_bls, all_bls, max_ints, String.reduceBEq, Bool.or_false, Bool.false_or, Bool.or_true, Bool.true_or, Bool.or_self, Bool.not_true, Bool.not_false, and_self, true_and, and_true, if_true, if_false, decide_eq_true_eq, Bool.false_eq_true, reduceCtorEq, ite_true, ite_false])
/-! ### specs as what is wanted behind -/
def DrawW (F : SF) : Prop := ∀ (S X : Store) (T size : Int) (fl : Fl), St S X T → T < lim → 0 < size → size < 2 ^ 40 → WR (F [(.obj 1, lend fl), (.int size, .sh)] S) fun r S' => ∃ i, r = (.int i, .sh) ∧ 0 ≤ i ∧ i < size ∧ St S' X (T + 1)
def PickW (F : SF) : Prop := ∀ (S X : Store) (T : Int) (fl f2 : Fl) (d : D) (its : List D), St S X T → T < lim → itemsD d = some its → 0 < its.length → its.length ≤ 1000000 → WR (F [(.obj 1, lend fl), (d, f2)] S) fun r S' => ∃ a, r = (a, .sh) ∧ a ∈ its ∧ St S' X (T + 1)
def WordW (F : SF) : Prop := ∀ (S X : Store) (T : Int) (fl : Fl), St S X T → T + 20 < lim → WR (F [(.obj 1, lend fl)] S) fun r S' => ∃ x, r = (.str x, .sh) ∧ nameB x = true ∧ St S' X (T + 20)
theorem DrawW.of {F : SF} (h : DrawOk F) : DrawW F := fun S X T size fl hS hT h0 h1 => by
  obtain ⟨i, S', a, b, c, e⟩ := h S X T size (lend fl) (lend_any fl) hS hT h0 h1
  exact .of e ⟨i, rfl, a, b, c⟩
theorem PickW.of {F : SF} (h : PickOk F) : PickW F := fun S X T fl f2 d its hS hT hi h0 h1 => by
  obtain ⟨i, S', a, b, e⟩ := h S X T (lend fl) f2 d its (lend_any fl) hS hT hi h0 h1
  exact .of e ⟨i, rfl, a, b⟩
theorem WordW.of {F : SF} (h : WordF F) : WordW F := fun S X T fl hS hT => by
  obtain ⟨x, S', a, b, e⟩ := h S X T (lend fl) (lend_any fl) hS hT
  exact .of e ⟨x, rfl, a, b⟩
theorem st_len {S X : Store} {T : Int} (h : St S X T) : S.length = 2 + X.length := by
  obtain ⟨ls, cells, rest, turn, e, _⟩ := h
  subst e
  simp [stS]; omega
theorem st_app {S X : Store} {T : Int} {d : D} (h : St S X T) : St (S ++ [d]) (X ++ [d]) T := by
  obtain ⟨ls, cells, rest, turn, e, o⟩ := h
  subst e
  exact ⟨ls, cells, rest, turn, rfl, o⟩
theorem st_get {S X : Store} {T : Int} {d : D} (h : St S (X ++ [d]) T) : S[2 + X.length]? = some d := by
  obtain ⟨ls, cells, rest, turn, e, _⟩ := h
  subst e
  show (_ :: _ :: (X ++ [d]))[2 + X.length]? = _
  rw [show 2 + X.length = X.length + 1 + 1 by omega, List.getElem?_cons_succ, List.getElem?_cons_succ]
  simp
theorem st_set {S X : Store} {T : Int} {d e : D} (h : St S (X ++ [d]) T) : St (S.set (2 + X.length) e) (X ++ [e]) T := by
  obtain ⟨ls, cells, rest, turn, q, o⟩ := h
  subst q
  refine ⟨ls, cells, rest, turn, ?_, o⟩
  show (_ :: _ :: (X ++ [d])).set (2 + X.length) e = _
  rw [show 2 + X.length = X.length + 1 + 1 by omega, List.set_cons_succ, List.set_cons_succ, List.set_append_right _ _ (Nat.le_refl _), Nat.sub_self]
  rfl
theorem st_view {S X : Store} {T : Int} {l : List D} (h : St S (X ++ [.lst l]) T) : view S (.obj (2 + X.length)) = .lst l := by
  show S.getD (2 + X.length) _ = _
  rw [List.getD_eq_getElem?_getD, st_get h]; rfl
/-! ### begin -/
theorem lc_filter {i : Nat} {c : DL.ST} {f : SE} {ρ : Loc} {S : Store} (k : D → Bool) (g : D → D) : ∀ (ds : List D), (∀ d ∈ ds, c (ρ.set i (some (d, .sh))) S = .ok (k d) S ∧ ∃ fl, f (ρ.set i (some (d, .sh))) S = .ok (g d, fl) S ∧ leakOk (g d, fl) = true) → lcI (gNm i) c f ρ ds S = .ok ((ds.filter k).map g) S
  | [], _ => rfl
  | d :: ds, h => by
    obtain ⟨h1, fl, h2, h3⟩ := h d List.mem_cons_self
    have ih := lc_filter k g ds fun b hb => h b (List.mem_cons_of_mem _ hb)
    rw [lcI]
    simp only [gNm, h1, R.go]
    by_cases hk : k d = true
    · rw [if_pos hk]
      simp only [h2, R.go, h3, if_true, ih, List.filter_cons, hk, List.map_cons]
    · rw [if_neg hk, ih]
      simp [List.filter_cons, hk]
theorem p18 {a b : Fl} {S : Store} : oPow (.int 10, a) (.int 18, b) S = some (.int (10 ^ 18), .sh) := oPow_eq (n := 18) (by decide) (by decide)
def isBig (d : D) : Bool := match d with
  | .int i => decide ((10 : Int) ^ 18 ≤ i)
  | _ => false
def cutBig (d : D) : D := match d with
  | .int i => .int (i - 10 ^ 18)
  | d => d
theorem merge_st {x y z u : D} : mergeD [] [(.str "large", x), (.str "cells", y), (.str "rest", z), (.str "turn", u)] = [(.str "large", x), (.str "cells", y), (.str "rest", z), (.str "turn", u)] := by simp [mergeD, setK, deq]
theorem seqOf_frl {ds : List D} {fl : Fl} : seqOf (.frl ds, fl) = some ds := rfl
def BeginOk (F : SF) : Prop := ∀ (xs : List Int) (fl : Fl), xs.length ≤ 1000 → WR (F [(.frl (xs.map D.int), fl)] []) fun r S' => r = (.obj 1, .sh) ∧ St S' [] 0
theorem begin_sem (E : Sem) : BeginOk (step E).L_begin := by
  intro xs fl hl
  show WR (bodyY 3 (v_L_begin E) _ _) _
  unfold v_L_begin
  walk_at "ev"
  rw [seqOf_frl]
  walk_at "ev"
  refine ⟨by rw [List.length_map]; exact Nat.lt_of_le_of_lt hl (by decide), ?_⟩
  rw [lc_map D.int (fun i => .int (if i < 0 then -i else i)) xs fun i _ => ⟨.sh, by refine WR.eq ?_; walk_at "ev"; exact ⟨rfl, rfl⟩, lk_int⟩]
  rw [show (xs.map fun i => D.int (if i < 0 then -i else i)) = (xs.map fun i => if i < 0 then -i else i).map D.int by simp]
  generalize hcs : (xs.map fun i => if i < 0 then -i else i) = cs
  have hcl : cs.length = xs.length := by rw [← hcs, List.length_map]
  walk_at "ev"
  refine ⟨by rw [List.length_map]; exact Nat.lt_of_le_of_lt (hcl ▸ hl) (by decide), ?_⟩
  rw [lc_filter isBig cutBig (cs.map D.int) fun d hd => by
    obtain ⟨i, _, rfl⟩ := List.mem_map.mp hd
    refine ⟨WR.eq ?_, .sh, WR.eq ?_, lk_int⟩
    · walk_at "ev"
      rw [p18]
      walk_at "ev"
      rfl
    · walk_at "ev"
      rw [p18]
      walk_at "ev"
      rfl]
  walk_at "ev"
  rw [merge_st]
  have big : ∀ ks : List Int, ((ks.map D.int).filter isBig).map cutBig = ((ks.filter fun i => decide ((10 : Int) ^ 18 ≤ i)).map fun i => i - 10 ^ 18).map D.int := by
    intro ks
    induction ks with
    | nil => rfl
    | cons k r ih =>
      by_cases h : (10 : Int) ^ 18 ≤ k
      · rw [List.map_cons, List.filter_cons, if_pos (show isBig (.int k) = true from decide_eq_true h), List.map_cons, ih, List.filter_cons, if_pos (decide_eq_true h)]
        rfl
      · rw [List.map_cons, List.filter_cons, if_neg (show ¬ isBig (.int k) = true from fun q => h (of_decide_eq_true q)), ih, List.filter_cons, if_neg (fun q => h (of_decide_eq_true q))]
  rw [big]
  refine ⟨_, cs, 0, 0, rfl, ⟨fun x hx => ?_, ?_, by decide, by decide, by decide⟩⟩
  · obtain ⟨i, hi, rfl⟩ := List.mem_map.mp hx
    have := (List.mem_filter.mp hi).2
    simp only [decide_eq_true_eq] at this
    omega
  · rw [List.length_map]
    have := List.length_filter_le (fun i => decide ((10 : Int) ^ 18 ≤ i)) cs
    omega
end K05

set_option maxRecDepth 100000
set_option maxHeartbeats 4000000
namespace K05
open DL DE
local macro_rules | `(tactic| walk_at "ev") => `(tactic| try simp only [↓w_look, ↓w_opt_some, ↓w_cst, ↓w_nil, ↓w_cons, ↓w_tup, ↓w_lst, ↓w_T, ↓w_if, ↓DE.w_and, ↓DE.w_or, ↓w_not, ↓w_tand, ↓w_tor, ↓w_tnot, ↓w_op2, ↓w_op1, ↓w_opN, ↓w_b1, ↓w_b2, ↓w_chain, ↓w_call, ↓w_callY, ↓w_makeY, ↓w_meth, ↓w_itemO, ↓w_upper, ↓w_cntB, ↓w_idxB, ↓w_lstRg1, ↓w_tupRg1, ↓w_bodyY, ↓w_initY, ↓w_make, ↓w_prop, ↓w_own2, ↓w_eqO, ↓w_neO, ↓w_appO, ↓w_dictE, ↓w_fld, ↓w_lenO, ↓w_isi, ↓w_new, ↓w_noPart, ↓w_part, ↓w_sl, ↓w_seqI, ↓w_rng1, ↓w_lc, ↓w_lc0, ↓w_lc1, ↓w_dict0, ↓w_dict1, ↓w_dict, ↓w_get2, ↓w_join, ↓o_skip, ↓o_seq, ↓o_drop, ↓o_ret, ↓o_retN, ↓o_set, ↓o_own, ↓o_if, ↓o_asg, ↓o_par, ↓o_for, ↓o_for0, ↓o_forN, ↓o_put, ↓o_fldS, ↓w_body, ↓w_init, en0, self_eq, put_held, List.length_nil, ↓w_ok, ↓o_nx,
  lk_sh, lk_own, lk_int, lk_str, lk_tup, lk_bl, lk_non, lk_obj, all_nil, all_cons, v_int, v_bl, v_str, v_tup, v_lst, v_non, v_ins, v_dk, a_int, a_lst, a_tup, a_str, s_int, lt_int, le_int, gt_int, ge_int, m_lst, m_tup, len_tup, len_lst, ix_tup, ix_lst, at_0, at_1, at_2, at_3, q_str, q_int, nq_int, nq_bl, tupOf_lst, tupOf_tup, lstOf_lst, lstOf_tup, int_int, int_bl, max_int, min_int, asB_bl, asI_int, asIns_ins, two_eq, asDk_dk, key_str, key_int, Int.cast_ofNat_Int, Int.natCast_one, Int.natCast_zero, one_eq, rng1_eq, seqOf_own, seqOf_sh, seqOf_bor, seqOf_tup, seqOf_str, asObj_obj, asStr_str, oneB_eq, revT_eq, lend_ret, asLst_lst, notR_bl,
  look0, looks, look1_sh, look1_bor, look1_own, look1_lend, lend2, lend_sh, lend_own, lend_bor, lend_mine, en_nil, en_cons, wi_nil, wi_cons, List.set_cons_zero, List.set_cons_succ, List.replicate_zero, List.replicate_succ, List.append_nil, List.nil_append, List.cons_append, List.map_cons, List.map_nil, List.length_cons, List.length_nil, Nat.reduceAdd, Nat.reduceLeDiff, sz_le, sz_lt, Option.map_some, Option.map_none, Option.some.injEq, exists_eq_left', Bool.and_true, Bool.true_and, in2, in3, in4, nin2, nq_str, cut21h, sl42, sl43, sl21, sl22, sl11, sl4h2, sl4h3, any_bls, all_bls, max_ints, String.reduceBEq, Bool.or_false, Bool.false_or, Bool.or_true, Bool.true_or, Bool.or_self, Bool.not_true, Bool.not_false, and_self, true_and, and_true, if_true, if_false, decide_eq_true_eq, Bool.false_eq_true, reduceCtorEq, ite_true, ite_false, ↓w_tupF, seqOf_ftp, ↓w_callI, ↓w_fldX, ↓o_cont, asExc])
def scr (ds : List D) (r : D) (n : Nat) : D := .ins 1 [("answers", .tup ds), ("rest", r), ("names", .obj n)]
def noA : D := .exc 3 [("name", .non)]
def tm : D → Bool
  | .non => true
  | .bl _ => true
  | .int _ => true
  | .str _ => true
  | .tup _ => true
  | .lst _ => true
  | _ => false
def isB : D → Bool
  | .bl _ => true
  | _ => false
def isT : D → Bool
  | .tup _ => true
  | _ => false
theorem view_tm {d : D} {S : Store} (h : tm d = true) : view S d = d := by cases d <;> first | rfl | cases h
theorem i_tup {d : D} (h : tm d = true) : isiP pb_tuple pc_tuple d = some (isT d) := by cases d <;> first | cases h; done | simp [isiP, tyD, pb_tuple, isT]
theorem i_bool {d : D} (h : tm d = true) : isiP pb_bool pc_bool d = some (isB d) := by cases d <;> first | cases h; done | simp [isiP, tyD, pb_bool, isB]
structure Okd (d : D) : Prop where
  tm : tm d = true
  its : ∀ ds, d = .tup ds → ds.length ≤ 100 ∧ ∀ x ∈ ds, K05.tm x = true ∧ plain x = true ∧ dep x ≤ 5
def ansD (d : D) : Bool := match d with
  | .tup ds => ds.all isB
  | _ => false
def AnsO (F : SF) : Prop := ∀ (d : D) (fl : Fl) (S : Store), Okd d → F [(d, fl)] S = .ok (.bl (ansD d), .sh) S
theorem ans_sem (E : Sem) : AnsO (step E).are_answers := by
  intro d fl S ok
  refine WR.eq ?_
  show WR (bodyY 2 (v_are_answers E) _ _) _
  unfold v_are_answers
  walk_at "ev"
  rw [view_tm ok.tm, i_tup ok.tm]
  walk_at "ev"
  cases d with
  | tup ds =>
    obtain ⟨few, all⟩ := ok.its ds rfl
    simp only [isT]
    walk_at "ev"
    refine ⟨small' (by omega), ?_⟩
    have q := lc_map (i := 1) (f := sIsi (isiP pb_bool pc_bool) (sVar 1)) (ρ := [some (.tup ds, lend fl), none]) (S := S) id (fun x => D.bl (isB x)) ds fun x hx => ⟨.sh, by
      refine WR.eq ?_
      walk_at "ev"
      simp only [id]
      rw [view_tm (all x hx).1, i_bool (all x hx).1]
      walk_at "ev"
      try rfl, rfl⟩
    rw [List.map_id] at q
    rw [q]
    walk_at "ev"
    rw [show (ds.map fun x => D.bl (isB x)) = (ds.map isB).map D.bl by simp]
    walk_at "ev"
    simp [ansD]
  | _ =>
    simp only [isT]
    walk_at "ev"
    try simp [ansD]
theorem at_k {ds : List D} {k : Int} {d : D} (k0 : 0 ≤ k) (hd : ds[k.toNat]? = some d) : L2.atI ds k = some d := by
  have := (List.getElem?_eq_some_iff.mp hd).1
  unfold L2.atI L2.ixN
  rw [if_pos k0, if_pos (by omega)]
  exact hd
theorem deps_le {n : Nat} : ∀ {ds : List D}, (∀ x ∈ ds, dep x ≤ n) → deps ds ≤ n
  | [], _ => Nat.zero_le _
  | d :: ds, h => by
    have h1 := h d List.mem_cons_self
    have h2 := deps_le (ds := ds) fun x hx => h x (List.mem_cons_of_mem _ hx)
    simp only [deps]
    omega
/-! ### scripts -/
theorem raise_if {t : DL.ST} {b : SS} {ρ : Loc} {S S1 : Store} {c : Nat} {fs : List (String × D)} {rest : SS} (h : t ρ S = .ok true S1) : sSeq (sIfS t (sSeq (sRaiseN true c fs) sSkip) b) rest ρ S = .ex (.exc c fs) ρ S1 := by
  refine seq_ex ?_
  rw [ifs h, if_pos rfl]
  exact seq_ex rfl
def goodD (d e : D) : Bool := ansD d && isB e
theorem isB_leak {e : D} {fl : Fl} (h : isB e = true) : leakOk (e, fl) = true := by cases e <;> first | (cases fl <;> rfl) | cases h
structure ScriptO (F : SF) : Prop where
  no : ∀ (d e : D) (fa fb : Fl) (S : Store), Okd d → tm e = true → goodD d e = false → F [(d, fa), (e, fb)] S = .exc noA S
  yes : ∀ (ds : List D) (e : D) (fa fb : Fl) (S : Store), Okd (.tup ds) → tm e = true → goodD (.tup ds) e = true → F [(.tup ds, fa), (e, fb)] S = .ok (scr ds e S.length, .own) (S ++ [.lst []])
theorem entI {a b : D} {fa fb : Fl} : entryI 3 1 [(a, fa), (b, fb)] = [some (.ins 1 [], .own), some (a, lend fa), some (b, lend fb)] := rfl
theorem script_sem {E : Sem} (hn : E.na = true) (ha : AnsO E.are_answers) : ScriptO (step E).i_Script := by
  have test : ∀ (d e : D) (fa fb : Fl) (S : Store), Okd d → tm e = true → (tOrS (tNotS (sT (sCallY 1 E.are_answers [] (sCons (sVar 1) sNil)))) (tNotS (sT (sIsi (isiP pb_bool pc_bool) (sVar 2))))) [some (.ins 1 [], .own), some (d, lend fa), some (e, lend fb)] S = .ok (!goodD d e) S := by
    intro d e fa fb S ok te
    refine WR.eq ?_
    walk_at "ev"
    rw [ha d _ S ok]
    walk_at "ev"
    unfold goodD
    cases ansD d with
    | false => walk_at "ev"; try rfl
    | true =>
      walk_at "ev"
      rw [view_tm te, i_bool te]
      walk_at "ev"
      try exact ⟨rfl, rfl⟩
  constructor
  · intro d e fa fb S ok te no
    show initY 3 1 (v_i_Script E) _ _ = _
    refine init_ex (ρ := [some (.ins 1 [], .own), some (d, lend fa), some (e, lend fb)]) ?_
    rw [entI]
    unfold v_i_Script
    rw [hn]
    have q := test d e fa fb S ok te
    rw [no] at q
    exact raise_if q
  · intro ds e fa fb S ok te yes
    refine WR.eq ?_
    show WR (initY 3 1 (v_i_Script E) _ _) _
    rw [w_initY, entI]
    unfold v_i_Script
    have q := test (.tup ds) e fa fb S ok te
    rw [yes] at q
    rw [o_seq, WO_congr (skip_if q), o_nx]
    dsimp only
    walk_at "ev"
    refine ⟨⟨rfl, by simp⟩, ?_⟩
    rw [show putN "answers" (D.tup ds) [] = [("answers", .tup ds)] from rfl]
    have le : leakOk (e, lend fb) = true := isB_leak (by unfold goodD at yes; rw [Bool.and_eq_true] at yes; exact yes.2)
    rw [le]
    walk_at "ev"
    refine ⟨⟨rfl, by simp⟩, ?_⟩
    rw [show putN "rest" e [("answers", D.tup ds)] = [("answers", .tup ds), ("rest", e)] from rfl]
    refine ⟨⟨rfl, by simp⟩, ?_⟩
    rfl
theorem g_f1 {a b c : D} : getN [("answers", a), ("rest", b), ("names", c)] "answers" = some a := by simp [getN_cons]
theorem g_f2 {a b c : D} : getN [("answers", a), ("rest", b), ("names", c)] "rest" = some b := by simp [getN_cons]
theorem g_f3 {a b c : D} : getN [("answers", a), ("rest", b), ("names", c)] "names" = some c := by simp [getN_cons]
theorem ok1 : okP 1 = true := rfl
local macro_rules | `(tactic| walk_at "ev") => `(tactic| try simp only [↓w_look, ↓w_opt_some, ↓w_cst, ↓w_nil, ↓w_cons, ↓w_tup, ↓w_lst, ↓w_T, ↓w_if, ↓DE.w_and, ↓DE.w_or, ↓w_not, ↓w_tand, ↓w_tor, ↓w_tnot, ↓w_op2, ↓w_op1, ↓w_opN, ↓w_b1, ↓w_b2, ↓w_chain, ↓w_call, ↓w_callY, ↓w_makeY, ↓w_meth, ↓w_itemO, ↓w_upper, ↓w_cntB, ↓w_idxB, ↓w_lstRg1, ↓w_tupRg1, ↓w_bodyY, ↓w_initY, ↓w_make, ↓w_prop, ↓w_own2, ↓w_eqO, ↓w_neO, ↓w_appO, ↓w_dictE, ↓w_fld, ↓w_lenO, ↓w_isi, ↓w_new, ↓w_noPart, ↓w_part, ↓w_sl, ↓w_seqI, ↓w_rng1, ↓w_lc, ↓w_lc0, ↓w_lc1, ↓w_dict0, ↓w_dict1, ↓w_dict, ↓w_get2, ↓w_join, ↓o_skip, ↓o_seq, ↓o_drop, ↓o_ret, ↓o_retN, ↓o_set, ↓o_own, ↓o_if, ↓o_asg, ↓o_par, ↓o_for, ↓o_for0, ↓o_forN, ↓o_put, ↓o_fldS, ↓w_body, ↓w_init, en0, self_eq, put_held, List.length_nil, ↓w_ok, ↓o_nx,
  lk_sh, lk_own, lk_int, lk_str, lk_tup, lk_bl, lk_non, lk_obj, all_nil, all_cons, v_int, v_bl, v_str, v_tup, v_lst, v_non, v_ins, v_dk, a_int, a_lst, a_tup, a_str, s_int, lt_int, le_int, gt_int, ge_int, m_lst, m_tup, len_tup, len_lst, ix_tup, ix_lst, at_0, at_1, at_2, at_3, q_str, q_int, nq_int, nq_bl, tupOf_lst, tupOf_tup, lstOf_lst, lstOf_tup, int_int, int_bl, max_int, min_int, asB_bl, asI_int, asIns_ins, two_eq, asDk_dk, key_str, key_int, Int.cast_ofNat_Int, Int.natCast_one, Int.natCast_zero, one_eq, rng1_eq, seqOf_own, seqOf_sh, seqOf_bor, seqOf_tup, seqOf_str, asObj_obj, asStr_str, oneB_eq, revT_eq, lend_ret, asLst_lst, notR_bl,
  look0, looks, look1_sh, look1_bor, look1_own, look1_lend, lend2, lend_sh, lend_own, lend_bor, lend_mine, en_nil, en_cons, wi_nil, wi_cons, List.set_cons_zero, List.set_cons_succ, List.replicate_zero, List.replicate_succ, List.append_nil, List.nil_append, List.cons_append, List.map_cons, List.map_nil, List.length_cons, List.length_nil, Nat.reduceAdd, Nat.reduceLeDiff, sz_le, sz_lt, Option.map_some, Option.map_none, Option.some.injEq, exists_eq_left', Bool.and_true, Bool.true_and, in2, in3, in4, nin2, nq_str, cut21h, sl42, sl43, sl21, sl22, sl11, sl4h2, sl4h3, any_bls, all_bls, max_ints, String.reduceBEq, Bool.or_false, Bool.false_or, Bool.or_true, Bool.true_or, Bool.or_self, Bool.not_true, Bool.not_false, and_self, true_and, and_true, if_true, if_false, decide_eq_true_eq, Bool.false_eq_true, reduceCtorEq, ite_true, ite_false, ↓w_tupF, seqOf_ftp, ↓w_callI, ↓w_fldX, ↓o_cont, asExc, g_f1, g_f2, g_f3, ok1])
/-- how a script answers -/
def CallO (F : SF) : Prop := ∀ (ds ns : List D) (e x : D) (n : Nat) (fl f2 : Fl) (S : Store), S[n]? = some (.lst ns) → isB e = true → ds.length ≤ 100 → ns.length ≤ 1000000 → (∃ y, x = .str y) →
  ∃ f3, F [(scr ds e n, fl), (x, f2)] S = .ok (ds.getD ns.length e, f3) (S.set n (.lst (ns ++ [x])))
theorem call_sem (E : Sem) : CallO (step E).scall := by
  intro ds ns e x n fl f2 S hn be few lim hx
  obtain ⟨y, rfl⟩ := hx
  have q : WR ((step E).scall [(scr ds e n, fl), (.str y, f2)] S) fun r S' => r.1 = ds.getD ns.length e ∧ S' = S.set n (.lst (ns ++ [.str y])) := by
    show WR (bodyY 3 (v_scall E) _ _) _
    unfold v_scall scr
    walk_at "ev"
    have hl : oLen (.obj n, .sh) S = some (.int ns.length, .sh) := by
      have v : view S (.obj n) = .lst ns := by simp [view, hn]
      unfold oLen
      rw [v]
      try simp [small (n := ns.length) (by omega)]
    rw [hl]
    walk_at "ev"
    refine ⟨⟨ns, by rw [hn]; rfl⟩, ns, by rw [hn]; rfl, small' (by omega), ?_⟩
    by_cases lt : (ns.length : Int) < ds.length
    · rw [if_pos lt]
      obtain ⟨a, ha⟩ : ∃ a, ds[ns.length]? = some a := ⟨ds[ns.length]'(by omega), List.getElem?_eq_getElem (by omega)⟩
      rw [at_k (by omega) (by simpa using ha)]
      walk_at "ev"
      rw [List.getD_eq_getElem?_getD, ha]
      rfl
    · rw [if_neg lt]
      refine ⟨?_, rfl⟩
      rw [List.getD_eq_getElem?_getD, List.getElem?_eq_none (by omega)]; rfl
  obtain ⟨⟨r, f3⟩, S1, e1, e2, e3⟩ := q.ex
  exact ⟨f3, by rw [e1, ← e2, e3]⟩
theorem asked_sem (E : Sem) : ∀ (ds ns : List D) (e : D) (n : Nat) (fl : Fl) (S : Store), S[n]? = some (.lst ns) → ns.length ≤ 1000000 → (step E).asked [(scr ds e n, fl)] S = .ok (.lst ns, .own) S := by
  intro ds ns e n fl S hn lim
  refine WR.eq ?_
  show WR (bodyF 1 (v_asked E) _ _) _
  unfold v_asked scr
  walk_at "ev"
  have hl : oLstOf (.obj n, .sh) S = some (.lst ns, .own) := by
    have v : view S (.obj n) = .lst ns := by simp [view, hn]
    unfold oLstOf
    rw [v]
    try simp [small (n := ns.length) (by omega)]
  rw [hl]
  walk_at "ev"
/-! ### what is good, which error -/
theorem good_sem (E : Sem) : ∀ (d e : D) (fl f2 : Fl) (S : Store), Okd d → tm e = true → (step E).L_good [(d, fl), (e, f2)] S = .ok (.bl (goodD d e), .sh) S := by
  intro d e fl f2 S ok te
  refine WR.eq ?_
  show WR (bodyY 3 (v_L_good E) _ _) _
  unfold v_L_good
  walk_at "ev"
  rw [view_tm ok.tm, i_tup ok.tm]
  walk_at "ev"
  cases d with
  | tup ds =>
    obtain ⟨few, all⟩ := ok.its ds rfl
    simp only [isT]
    walk_at "ev"
    rw [view_tm te, i_bool te]
    walk_at "ev"
    cases hb : isB e with
    | false => walk_at "ev"; try simp [goodD, hb]
    | true =>
      walk_at "ev"
      refine ⟨small' (by omega), ?_⟩
      rw [lc_filter (fun x => !isB x) id ds fun x hx => by
        refine ⟨WR.eq ?_, .sh, rfl, by cases x <;> rfl⟩
        walk_at "ev"
        rw [view_tm (all x hx).1, i_bool (all x hx).1]
        walk_at "ev"
        try rfl]
      rw [List.map_id]
      walk_at "ev"
      have pl : plain (.lst (ds.filter fun x => !isB x)) = true := by
        simp only [plain]
        rw [plains_all, List.all_eq_true]
        exact fun x hx => (all x (List.mem_filter.mp hx).1).2.1
      have dl : dep (.lst (ds.filter fun x => !isB x)) ≤ 190 := by
        have := deps_le (n := 5) (ds := ds.filter fun x => !isB x) fun x hx => (all x (List.mem_filter.mp hx).1).2.2
        simp only [dep]; omega
      rw [show oEq (.lst (ds.filter fun x => !isB x), Fl.own) (.lst [], Fl.own) S = some (.bl (deq (.lst (ds.filter fun x => !isB x)) (.lst [])), .sh) by
        simp [oEq, view, pl, dl, plain, plains]]
      walk_at "ev"
      have e1 : deq (.lst (ds.filter fun x => !isB x)) (.lst []) = ds.all isB := by
        by_cases h : ds.all isB = true
        · rw [h]
          have : (ds.filter fun x => !isB x) = [] := by
            rw [List.filter_eq_nil_iff]
            intro x hx
            simp [List.all_eq_true.mp h x hx]
          rw [this]; rfl
        · rw [show ds.all isB = false by simpa using h]
          cases hf : (ds.filter fun x => !isB x) with
          | nil =>
            exfalso
            apply h
            rw [List.all_eq_true]
            intro x hx
            have := List.filter_eq_nil_iff.mp hf x hx
            simpa using this
          | cons y ys => rfl
      rw [e1]
      simp [goodD, ansD, hb]
  | _ =>
    simp only [isT]
    walk_at "ev"
    try simp [goodD, ansD]
def KindO (F : SF) : Prop := ∀ (fl : Fl) (S : Store), F [(noA, fl)] S = .ok (.str "NoAnswer", .sh) S
theorem x_v {S : Store} : view S noA = noA := rfl
theorem isN_x {fl f2 : Fl} {S : Store} : oIsN (noA, fl) (.non, f2) S = some (.bl false, .sh) := rfl
theorem isN_n {fl f2 : Fl} {S : Store} : oIsN (.non, fl) (.non, f2) S = some (.bl true, .sh) := rfl
theorem x1 : isiR pb_NoMachine pc_NoMachine px_NoMachine noA = some false := by decide
theorem x2 : isiR pb_NoAnswer pc_NoAnswer px_NoAnswer noA = some true := by decide
theorem x3 : isiR pb_NoProgram pc_NoProgram px_NoProgram noA = some false := by decide
theorem x4 : isiR pb_NoBook pc_NoBook px_NoBook noA = some false := by decide
theorem x5 : isiR pb_NoModes pc_NoModes px_NoModes noA = some false := by decide
theorem x6 : isiR pb_Stuck pc_Stuck px_Stuck noA = some false := by decide
theorem x7 : isiR pb_TooMany pc_TooMany px_TooMany noA = some false := by decide
theorem x8 : isiR pb_NoText pc_NoText px_NoText noA = some false := by decide
theorem x9 : isiR pb_ModeError pc_ModeError px_ModeError noA = some true := by decide
theorem x10 : isiR pb_ValueError pc_ValueError px_ValueError noA = some true := by decide
theorem marks {a : Fl} {S : Store} : blsOf (.lst [.bl false, .bl true, .bl false, .bl false, .bl false, .bl false, .bl false, .bl false], a) S = some [false, true, false, false, false, false, false, false] := rfl
theorem kind_sem (E : Sem) : KindO (step E).L_kind := by
  intro fl S
  refine WR.eq ?_
  show WR (bodyY 3 (v_L_kind E) _ _) _
  unfold v_L_kind
  walk_at "ev"
  rw [isN_x]
  walk_at "ev"
  try simp only [x_v, x1, x2, x3, x4, x5, x6, x7, x8, x9, x10]
  walk_at "ev"
  try simp only [x_v, x1, x2, x3, x4, x5, x6, x7, x8, x9, x10]
  walk_at "ev"
  rw [marks]
  walk_at "ev"
  refine ⟨by decide, ?_⟩
  rw [show (([false, true, false, false, false, false, false, false] : List Bool).idxOf true : Nat) = 1 from rfl]
  walk_at "ev"
end K05

set_option maxRecDepth 100000
set_option maxHeartbeats 4000000
namespace K05
open DL DE
local macro_rules | `(tactic| walk_at "ev") => `(tactic| try simp only [↓w_look, ↓w_opt_some, ↓w_cst, ↓w_nil, ↓w_cons, ↓w_tup, ↓w_lst, ↓w_T, ↓w_if, ↓DE.w_and, ↓DE.w_or, ↓w_not, ↓w_tand, ↓w_tor, ↓w_tnot, ↓w_op2, ↓w_op1, ↓w_opN, ↓w_b1, ↓w_b2, ↓w_chain, ↓w_call, ↓w_callY, ↓w_makeY, ↓w_meth, ↓w_itemO, ↓w_upper, ↓w_cntB, ↓w_idxB, ↓w_lstRg1, ↓w_tupRg1, ↓w_bodyY, ↓w_initY, ↓w_make, ↓w_prop, ↓w_own2, ↓w_eqO, ↓w_neO, ↓w_appO, ↓w_dictE, ↓w_fld, ↓w_lenO, ↓w_isi, ↓w_new, ↓w_noPart, ↓w_part, ↓w_sl, ↓w_seqI, ↓w_rng1, ↓w_lc, ↓w_lc0, ↓w_lc1, ↓w_dict0, ↓w_dict1, ↓w_dict, ↓w_get2, ↓w_join, ↓o_skip, ↓o_seq, ↓o_drop, ↓o_ret, ↓o_retN, ↓o_set, ↓o_own, ↓o_if, ↓o_asg, ↓o_par, ↓o_for, ↓o_for0, ↓o_forN, ↓o_put, ↓o_fldS, ↓w_body, ↓w_init, en0, self_eq, put_held, List.length_nil, ↓w_ok, ↓o_nx,
  lk_sh, lk_own, lk_int, lk_str, lk_tup, lk_bl, lk_non, lk_obj, all_nil, all_cons, v_int, v_bl, v_str, v_tup, v_lst, v_non, v_ins, v_dk, a_int, a_lst, a_tup, a_str, s_int, lt_int, le_int, gt_int, ge_int, m_lst, m_tup, len_tup, len_lst, ix_tup, ix_lst, at_0, at_1, at_2, at_3, q_str, q_int, nq_int, nq_bl, tupOf_lst, tupOf_tup, lstOf_lst, lstOf_tup, int_int, int_bl, max_int, min_int, asB_bl, asI_int, asIns_ins, two_eq, asDk_dk, key_str, key_int, Int.cast_ofNat_Int, Int.natCast_one, Int.natCast_zero, one_eq, rng1_eq, seqOf_own, seqOf_sh, seqOf_bor, seqOf_tup, seqOf_str, asObj_obj, asStr_str, oneB_eq, revT_eq, lend_ret, asLst_lst, notR_bl,
  look0, looks, look1_sh, look1_bor, look1_own, look1_lend, lend2, lend_sh, lend_own, lend_bor, lend_mine, en_nil, en_cons, wi_nil, wi_cons, List.set_cons_zero, List.set_cons_succ, List.replicate_zero, List.replicate_succ, List.append_nil, List.nil_append, List.cons_append, List.map_cons, List.map_nil, List.length_cons, List.length_nil, Nat.reduceAdd, Nat.reduceLeDiff, sz_le, sz_lt, Option.map_some, Option.map_none, Option.some.injEq, exists_eq_left', Bool.and_true, Bool.true_and, in2, in3, in4, nin2, nq_str, cut21h, sl42, sl43, sl21, sl22, sl11, sl4h2, sl4h3, any_bls, all_bls, max_ints, String.reduceBEq, Bool.or_false, Bool.false_or, Bool.or_true, Bool.true_or, Bool.or_self, Bool.not_true, Bool.not_false, and_self, true_and, and_true, if_true, if_false, decide_eq_true_eq, Bool.false_eq_true, reduceCtorEq, ite_true, ite_false, ↓w_tupF, seqOf_ftp, ↓w_callI, ↓w_fldX, ↓o_cont, asExc, g_f1, g_f2, g_f3, ok1])
theorem emA : em_ModeError 3 = some true := by decide
structure MadeO (F : SF) : Prop where
  no : ∀ (d e : D) (fa fb : Fl) (S : Store), Okd d → tm e = true → goodD d e = false → F [(d, fa), (e, fb)] S = .ok (.lst [.str "NoAnswer", .non], .own) S
  yes : ∀ (ds : List D) (e : D) (fa fb : Fl) (S : Store), Okd (.tup ds) → tm e = true → goodD (.tup ds) e = true → F [(.tup ds, fa), (e, fb)] S = .ok (scr ds e S.length, .sh) (S ++ [.lst []])
theorem made_sem {E : Sem} (h : ScriptO E.i_Script) (hk : KindO E.L_kind) : MadeO (step E).L_made := by
  constructor
  · intro d e fa fb S ok te no
    obtain ⟨ρ, eρ⟩ : ∃ ρ : Loc, ρ = [some (d, lend fa), some (e, lend fb), some (.non, .sh), some (.non, .sh), none] := ⟨_, rfl⟩
    have ar : (sCons (sVar 0) (sCons (sVar 1) sNil)) ρ S = .ok [(d, lend fa), (e, lend fb)] S := by
      subst eρ
      refine WR.eq ?_
      walk_at "ev"
    have cl : sMakeY 3 E.i_Script [] (sCons (sVar 0) (sCons (sVar 1) sNil)) ρ S = .exc noA S := by
      have z : sMakeY 3 E.i_Script [] (sCons (sVar 0) (sCons (sVar 1) sNil)) ρ S = E.i_Script [(d, lend fa), (e, lend fb)] S := by
        unfold sMakeY
        rw [ar]; rfl
      exact z.trans (h.no d e _ _ S ok te no)
    refine WR.eq ?_
    show WR (bodyY 5 (v_L_made E) _ _) _
    unfold v_L_made
    walk_at "ev"
    refine ⟨_, rfl, ?_⟩
    have tr : sTryK em_ModeError 4 3 (sSeq (sSet 2 (sMakeY 3 E.i_Script [] (sCons (sVar 0) (sCons (sVar 1) sNil)))) sSkip) ρ S = .nx [some (d, lend fa), some (e, lend fb), some (.non, .sh), some (noA, .sh), none] S := by
      rw [try_ex (seq_ex (set_ex cl)) emA, eρ]; rfl
    subst eρ
    refine (WO_congr tr).mpr ?_
    walk_at "ev"
    rw [isN_x]
    walk_at "ev"
    rw [hk]
    walk_at "ev"
    rw [x_v, x2]
    walk_at "ev"
    refine ⟨_, rfl, rfl, ?_⟩
    rw [show getN [("name", D.non)] "name" = some .non by simp [getN_cons]]
    exact ⟨rfl, rfl, rfl⟩
  · intro ds e fa fb S ok te yes
    obtain ⟨ρ, eρ⟩ : ∃ ρ : Loc, ρ = [some (.tup ds, lend fa), some (e, lend fb), some (.non, .sh), some (.non, .sh), none] := ⟨_, rfl⟩
    have ar : (sCons (sVar 0) (sCons (sVar 1) sNil)) ρ S = .ok [(.tup ds, lend fa), (e, lend fb)] S := by
      subst eρ
      refine WR.eq ?_
      walk_at "ev"
    have cl : sMakeY 3 E.i_Script [] (sCons (sVar 0) (sCons (sVar 1) sNil)) ρ S = .ok (scr ds e S.length, .own) (S ++ [.lst []]) := by
      have z : sMakeY 3 E.i_Script [] (sCons (sVar 0) (sCons (sVar 1) sNil)) ρ S = E.i_Script [(.tup ds, lend fa), (e, lend fb)] S := by
        unfold sMakeY
        rw [ar]; rfl
      exact z.trans (h.yes ds e _ _ S ok te yes)
    refine WR.eq ?_
    show WR (bodyY 5 (v_L_made E) _ _) _
    unfold v_L_made
    walk_at "ev"
    refine ⟨_, rfl, ?_⟩
    have tr : sTryK em_ModeError 4 3 (sSeq (sSet 2 (sMakeY 3 E.i_Script [] (sCons (sVar 0) (sCons (sVar 1) sNil)))) sSkip) ρ S = .nx [some (.tup ds, lend fa), some (e, lend fb), some (scr ds e S.length, .sh), some (.non, .sh), none] (S ++ [.lst []]) := by
      refine try_nx ?_
      rw [seq_nx (set_nx cl rfl), eρ]; rfl
    subst eρ
    refine (WO_congr tr).mpr ?_
    walk_at "ev"
    rw [isN_n]
    walk_at "ev"
    try exact ⟨rfl, rfl, rfl⟩
/-! ### answers drawn -/
def AnswersW (F : SF) : Prop := ∀ (S X : Store) (T : Int) (fl : Fl), St S X T → T + 20 < lim → WR (F [(.obj 1, lend fl), (.int 12, .sh)] S) fun r S' => ∃ bs : List Bool, bs.length ≤ 12 ∧ r = (.tup (bs.map D.bl), .sh) ∧ St S' X (T + 14)
theorem answers_sem {E : Sem} (hd : DrawW E.L_draw) : AnswersW (step E).L_answers := by
  intro S X T fl hS hT
  unfold lim at hT
  show WR (bodyY 3 (v_L_answers E) _ _) _
  unfold v_L_answers
  walk_at "ev"
  refine (hd S X T 13 _ hS (by unfold lim; omega) (by decide) (by decide)).mono ?_
  rintro _ S1 ⟨k, rfl, k0, k1, hS1⟩
  walk_at "ev"
  refine ⟨by omega, by rw [rng_len]; exact small' (by omega), ?_⟩
  refine (w_lcP (fun acc S' => (∃ bs : List Bool, acc = bs.map D.bl) ∧ St S' X (T + 1 + acc.length)) ⟨⟨[], rfl⟩, by simpa using hS1⟩ ?_).mono ?_
  · rintro acc d S2 hacc ⟨⟨bs, eb⟩, hS2⟩
    have hlt := (List.getElem?_eq_some_iff.mp hacc).1
    rw [rng_len] at hlt
    walk_at "ev"
    refine (hd S2 X _ 2 _ hS2 (by unfold lim; omega) (by decide) (by decide)).mono ?_
    rintro _ S3 ⟨j, rfl, j0, j1, hS3⟩
    walk_at "ev"
    refine ⟨⟨bs ++ [decide (j = 1)], by rw [eb]; simp⟩, hS3.more (by simp; omega)⟩
  · rintro rs S2 ⟨hl, ⟨bs, eb⟩, hS2⟩
    rw [rng_len] at hl
    refine ⟨bs, ?_, by rw [eb], hS2.more (by omega)⟩
    have : rs.length = bs.length := by rw [eb, List.length_map]
    omega
end K05

set_option maxRecDepth 100000
set_option maxHeartbeats 4000000
namespace K05
open DL DE
local macro_rules | `(tactic| walk_at "ev") => `(tactic| try simp only [↓w_look, ↓w_opt_some, ↓w_cst, ↓w_nil, ↓w_cons, ↓w_tup, ↓w_lst, ↓w_T, ↓w_if, ↓DE.w_and, ↓DE.w_or, ↓w_not, ↓w_tand, ↓w_tor, ↓w_tnot, ↓w_op2, ↓w_op1, ↓w_opN, ↓w_b1, ↓w_b2, ↓w_chain, ↓w_call, ↓w_callY, ↓w_makeY, ↓w_meth, ↓w_itemO, ↓w_upper, ↓w_cntB, ↓w_idxB, ↓w_lstRg1, ↓w_tupRg1, ↓w_bodyY, ↓w_initY, ↓w_make, ↓w_prop, ↓w_own2, ↓w_eqO, ↓w_neO, ↓w_appO, ↓w_dictE, ↓w_fld, ↓w_lenO, ↓w_isi, ↓w_new, ↓w_noPart, ↓w_part, ↓w_sl, ↓w_seqI, ↓w_rng1, ↓w_lc, ↓w_lc0, ↓w_lc1, ↓w_dict0, ↓w_dict1, ↓w_dict, ↓w_get2, ↓w_join, ↓o_skip, ↓o_seq, ↓o_drop, ↓o_ret, ↓o_retN, ↓o_set, ↓o_own, ↓o_if, ↓o_asg, ↓o_par, ↓o_for, ↓o_for0, ↓o_forN, ↓o_put, ↓o_fldS, ↓w_body, ↓w_init, en0, self_eq, put_held, List.length_nil, ↓w_ok, ↓o_nx,
  lk_sh, lk_own, lk_int, lk_str, lk_tup, lk_bl, lk_non, lk_obj, all_nil, all_cons, v_int, v_bl, v_str, v_tup, v_lst, v_non, v_ins, v_dk, a_int, a_lst, a_tup, a_str, s_int, lt_int, le_int, gt_int, ge_int, m_lst, m_tup, len_tup, len_lst, ix_tup, ix_lst, at_0, at_1, at_2, at_3, q_str, q_int, nq_int, nq_bl, tupOf_lst, tupOf_tup, lstOf_lst, lstOf_tup, int_int, int_bl, max_int, min_int, asB_bl, asI_int, asIns_ins, two_eq, asDk_dk, key_str, key_int, Int.cast_ofNat_Int, Int.natCast_one, Int.natCast_zero, one_eq, rng1_eq, seqOf_own, seqOf_sh, seqOf_bor, seqOf_tup, seqOf_str, asObj_obj, asStr_str, oneB_eq, revT_eq, lend_ret, asLst_lst, notR_bl,
  look0, looks, look1_sh, look1_bor, look1_own, look1_lend, lend2, lend_sh, lend_own, lend_bor, lend_mine, en_nil, en_cons, wi_nil, wi_cons, List.set_cons_zero, List.set_cons_succ, List.replicate_zero, List.replicate_succ, List.append_nil, List.nil_append, List.cons_append, List.map_cons, List.map_nil, List.length_cons, List.length_nil, Nat.reduceAdd, Nat.reduceLeDiff, sz_le, sz_lt, Option.map_some, Option.map_none, Option.some.injEq, exists_eq_left', Bool.and_true, Bool.true_and, in2, in3, in4, nin2, nq_str, cut21h, sl42, sl43, sl21, sl22, sl11, sl4h2, sl4h3, any_bls, all_bls, max_ints, String.reduceBEq, Bool.or_false, Bool.false_or, Bool.or_true, Bool.true_or, Bool.or_self, Bool.not_true, Bool.not_false, and_self, true_and, and_true, if_true, if_false, decide_eq_true_eq, Bool.false_eq_true, reduceCtorEq, ite_true, ite_false, ↓w_tupF, seqOf_ftp, ↓w_callI, ↓w_fldX, ↓o_cont, asExc, g_f1, g_f2, g_f3, ok1])
theorem st_at {S X : Store} {T : Int} {i : Nat} (h : St S X T) : S[2 + i]? = X[i]? := by
  obtain ⟨ls, cs, re, tu, rfl, _⟩ := h
  unfold stS
  rw [show 2 + i = i + 1 + 1 by omega]
  rfl
theorem st_put {S X : Store} {T : Int} {i : Nat} {d : D} (h : St S X T) : St (S.set (2 + i) d) (X.set i d) T := by
  obtain ⟨ls, cs, re, tu, rfl, k⟩ := h
  refine ⟨ls, cs, re, tu, ?_, k⟩
  unfold stS
  rw [show 2 + i = i + 1 + 1 by omega]
  rfl
def qs (m : Nat) : D := .lst ((List.replicate m "q").map D.str)
/-- a script that is drawn -/
structure LawB (E : Sem) : Prop where
  bg : BeginOk E.L_begin
  dr : DrawW E.L_draw
  pk : PickW E.L_pick
  wd : WordW E.L_word
  an : AnswersW E.L_answers
  sc : ScriptO E.i_Script
  ca : CallO E.scall
  ask : ∀ (ds ns : List D) (e : D) (n : Nat) (fl : Fl) (S : Store), S[n]? = some (.lst ns) → ns.length ≤ 1000000 → E.asked [(scr ds e n, fl)] S = .ok (.lst ns, .own) S
  md : MadeO E.L_made
  gd : ∀ (d e : D) (fl f2 : Fl) (S : Store), Okd d → tm e = true → E.L_good [(d, fl), (e, f2)] S = .ok (.bl (goodD d e), .sh) S
/-- the names of the law's def -/
def Fr (xs : List Int) (f0 : Fl) (a e w o : Option RV) (ρ : Loc) : Prop := ∃ x3 x8 x9 x10 x11, ρ = [some (.frl (xs.map D.int), f0), some (.obj 1, .sh), some (scr [] (.bl false) 2, .sh), x3, a, e, w, o, x8, x9, x10, x11, none]
structure Odd (d : D) : Prop where
  ok : Okd d
  pl : plain d = true
  dp : dep d ≤ 3
  few : ∀ ds, d = .tup ds → ds.length ≤ 14
def oddB (d : D) : Bool := tm d && plain d && decide (dep d ≤ 3) && (match d with
  | .tup ds => decide (ds.length ≤ 13) && ds.all (fun x => tm x && plain x && decide (dep x ≤ 5))
  | _ => true)
theorem odd_of {d : D} (h : oddB d = true) : Odd d := by
  unfold oddB at h
  simp only [Bool.and_eq_true, decide_eq_true_eq] at h
  obtain ⟨⟨⟨h1, h2⟩, h3⟩, h4⟩ := h
  refine ⟨⟨h1, fun ds e => ?_⟩, h2, h3, fun ds e => ?_⟩
  all_goals
    subst e
    simp only [Bool.and_eq_true, decide_eq_true_eq, List.all_eq_true] at h4
  rotate_left
  · omega
  exact ⟨by omega, fun x hx => ⟨(h4.2 x hx).1.1, (h4.2 x hx).1.2, (h4.2 x hx).2⟩⟩
theorem tm_leak {d : D} (h : tm d = true) : leakOk (d, .sh) = true := by cases d <;> first | rfl | cases h
def Fr2 (xs : List Int) (f0 : Fl) (a4 : D) (ec : Bool) (w : Int) (o : D) (x8 x9 x10 : Option RV) (ρ : Loc) : Prop := ∃ x3 x11, ρ = [some (.frl (xs.map D.int), f0), some (.obj 1, .sh), some (scr [] (.bl false) 2, .sh), x3, some (a4, .sh), some (.bl ec, .sh), some (.int w, .sh), some (o, .sh), x8, x9, x10, x11, none]
def PW (xs : List Int) (f0 : Fl) (a4 : D) (cs : List Bool) (ec : Bool) (w : Int) (o : D) (m : Nat) (Y : List D) (T : Int) (x10 : Option RV) (ρ : Loc) (S : Store) : Prop :=
  ∃ ws : List String, ws.length = cs.length + 3 ∧ Fr2 xs f0 a4 ec w o (some (scr (cs.map D.bl) (.bl ec) (3 + Y.length), .sh)) (some (.lst (ws.map D.str), .sh)) x10 ρ ∧ St S (qs m :: (Y ++ [.lst []])) (T + 400)
theorem good_bls {a e : D} (h : goodD a e = true) : ∃ (cs : List Bool) (ec : Bool), a = .tup (cs.map D.bl) ∧ e = .bl ec := by
  unfold goodD at h
  rw [Bool.and_eq_true] at h
  obtain ⟨h1, h2⟩ := h
  have he : ∃ ec, e = .bl ec := by cases e <;> first | exact ⟨_, rfl⟩ | cases h2
  have key : ∀ ds : List D, ds.all isB = true → ∃ cs : List Bool, ds = cs.map D.bl := by
    intro ds
    induction ds with
    | nil => exact fun _ => ⟨[], rfl⟩
    | cons d r ih =>
      intro q
      rw [List.all_cons, Bool.and_eq_true] at q
      obtain ⟨cs, rfl⟩ := ih q.2
      have : ∃ c, d = .bl c := by cases d <;> first | exact ⟨_, rfl⟩ | (have z := q.1; cases z)
      obtain ⟨c, rfl⟩ := this
      exact ⟨c :: cs, rfl⟩
  obtain ⟨ec, rfl⟩ := he
  cases a with
  | tup ds =>
    obtain ⟨cs, rfl⟩ := key ds h1
    exact ⟨cs, ec, rfl, rfl⟩
  | _ => cases h1
theorem told_all (cs : List Bool) (ec : Bool) : (List.range (cs.length + 3)).map (fun i => cs.getD i ec) = cs ++ [ec, ec, ec] := by
  apply List.ext_getElem
  · simp
  · intro i h1 h2
    simp only [List.length_map, List.length_range] at h1
    rw [List.getElem_map, List.getElem_range, List.getD_eq_getElem?_getD]
    by_cases q : i < cs.length
    · rw [List.getElem?_eq_getElem q, List.getElem_append_left q]; rfl
    · rw [List.getElem?_eq_none (by omega), List.getElem_append_right (by omega)]
      have : i - cs.length = 0 ∨ i - cs.length = 1 ∨ i - cs.length = 2 := by omega
      rcases this with z | z | z <;> simp [z]
theorem bls_plain (cs : List Bool) : plain (.lst (cs.map D.bl)) = true := by
  simp only [plain]
  rw [plains_all, List.all_eq_true]
  intro x hx
  obtain ⟨b, _, rfl⟩ := List.mem_map.mp hx
  rfl
theorem bls_show (cs : List Bool) : (py (.lst (cs.map D.bl))).showable = true := by
  simp only [py, PySem.PyData.showable]
  induction cs with
  | nil => simp [pys, PySem.PyData.showableAll]
  | cons c r ih => simp [pys, PySem.PyData.showableAll, py, PySem.PyData.showable, ih]
theorem bls_len (cs : List Bool) : lenB (.lst (cs.map D.bl)) ≤ 2 + 7 * cs.length := by
  simp only [lenB]
  induction cs with
  | nil => simp [lensB]
  | cons c r ih => simp [lensB, lenB] at ih ⊢; omega
theorem bls_dep (cs : List Bool) : dep (.lst (cs.map D.bl)) ≤ 1 := by
  have := deps_le (n := 0) (ds := cs.map D.bl) fun x hx => by
    obtain ⟨b, _, rfl⟩ := List.mem_map.mp hx
    simp [dep]
  simp only [dep]; omega
theorem strD_map : ∀ ws : List String, strsD (ws.map D.str) = some ws
  | [] => rfl
  | x :: r => by simp [strsD, strD_map r]
/-- behind a script that is made -/
noncomputable def tailS (E : Sem) : SS := (sSeq (sSet 9 (sLc (sRng1 (sCons (sOp2 oAdd (sB1 oLen (sVar 4)) (sCst (.int 3))) sNil)) (gNm 12) sYes (sCallY 1 E.L_word [] (sCons (sVar 1) sNil)) [12]))
  (sSeq (sSet 10 (sNew (sLst sNil)))
  (sSeq (sFor (sSeqI (sVar 9)) (gNm 11)
  (sSeq (sDrop (sAppO (sVar 10) (sCons (sCallI 2 E.scall okP (sVar 8) (sCons (sVar 11) sNil)) sNil)))
  (sSeq (sIfS (sT (sOp2 (oIsBN true) (sCallI 2 E.scall okP (sVar 2) (sCons (sCst (.str "q")) sNil)) (sCst (.bl false))))
  (sSeq (sRet (sCst (.bl false)))
  sSkip)
  sSkip)
  sSkip)))
  (sSeq (sIfS (tOrS (sT (sOp2 oNe (sB1 oRepr (sVar 10)) (sB1 oRepr (sOp2 oAdd (sB1 oLstOf (sVar 4)) (sOp2 oMul (sLst (sCons (sVar 5) sNil)) (sCst (.int 3))))))) (sT (sOp2 oNe (sProp E.asked okP (sVar 8)) (sVar 9))))
  (sSeq (sRet (sCst (.bl false)))
  sSkip)
  sSkip)
  sSkip))))
theorem tail_sem {E : Sem} (h : LawB E) {k : Ks} {xs : List Int} {f0 : Fl} {cs : List Bool} {ec : Bool} {w : Int} {o : D} {m : Nat} {Y : List D} {T : Int} {a4 : D} (ea : a4 = .tup (cs.map D.bl)) {x3 x9 x10 x11 : Option RV} {S10 : Store} (few3 : cs.length ≤ 14) (hT : T ≤ 20000) (hm : m ≤ 1000) (hS10 : St S10 (qs m :: (Y ++ [.lst []])) (T + 18))
    (fin : ∀ (ρ : Loc) (S : Store) (x8 x9 x10 : Option RV) (m' : Nat) (Y' : List D), m' ≤ m + 20 → Fr2 xs f0 a4 ec w o x8 x9 x10 ρ → St S (qs m' :: Y') (T + 400) → k.N ρ S) :
    WO (tailS E [some (.frl (xs.map D.int), f0), some (.obj 1, .sh), some (scr [] (.bl false) 2, .sh), x3, some (a4, .sh), some (.bl ec, .sh), some (.int w, .sh), some (o, .sh), some (scr (cs.map D.bl) (.bl ec) (3 + Y.length), .sh), x9, x10, x11, none] S10) k := by
  unfold tailS
  refine o_seqP (PW xs f0 a4 cs ec w o m Y T x10) ?_ ?_
  · obtain ⟨rs, S11, e11, hl11, ⟨ws, ews⟩, hS11⟩ := (w_lcP (i := 12) (f := sCallY 1 E.L_word [] (sCons (sVar 1) sNil)) (ρ := [some (.frl (xs.map D.int), f0), some (.obj 1, .sh), some (scr [] (.bl false) 2, .sh), x3, some (a4, .sh), some (.bl ec, .sh), some (.int w, .sh), some (o, .sh), some (scr (cs.map D.bl) (.bl ec) (3 + Y.length), .sh), x9, x10, x11, none]) (ds := rngD 0 ((cs.length : Int) + 3).toNat) (fun acc S' => (∃ ws : List String, acc = ws.map D.str) ∧ St S' (qs m :: (Y ++ [.lst []])) (T + 18 + 20 * acc.length)) ⟨⟨[], rfl⟩, by simpa using hS10⟩ (by
        rintro acc d S2 hacc ⟨⟨ws, ews⟩, hS2⟩
        have hlt := (List.getElem?_eq_some_iff.mp hacc).1
        rw [rng_len] at hlt
        walk_at "ev"
        refine (h.wd S2 _ _ .sh hS2 (by unfold lim; omega)).mono ?_
        rintro _ S3 ⟨x, rfl, hx, hS3⟩
        exact ⟨rfl, ⟨ws ++ [x], by rw [ews]; simp⟩, hS3.more (by simp; omega)⟩)).ex
    have lw : ws.length = cs.length + 3 := by
      have := hl11
      rw [ews, List.length_map, rng_len] at this
      omega
    have st : sSet 9 (sLc (sRng1 (sCons (sOp2 oAdd (sB1 oLen (sVar 4)) (sCst (.int 3))) sNil)) (gNm 12) sYes (sCallY 1 E.L_word [] (sCons (sVar 1) sNil)) [12]) [some (.frl (xs.map D.int), f0), some (.obj 1, .sh), some (scr [] (.bl false) 2, .sh), x3, some (a4, .sh), some (.bl ec, .sh), some (.int w, .sh), some (o, .sh), some (scr (cs.map D.bl) (.bl ec) (3 + Y.length), .sh), x9, x10, x11, none] S10 = _ :=
      set_nx (evLc (evRng1 (evArgs1 (ev2 (evB1 (evVar (fl := .sh) rfl (.inr rfl)) (len_items (its := cs.map D.bl) (by rw [ea]; rfl) (by rw [List.length_map]; omega))) evC oAdd_eq)) (by rw [List.length_map]; omega) (by rw [List.length_map]; omega)) (by rw [rng_len, List.length_map]; omega) (by rw [List.length_map]; exact e11)) rfl
    rw [WO_congr st]
    refine ⟨ws, lw, ⟨x3, x11, by rw [ews]; rfl⟩, hS11.more ?_⟩
    rw [ews, List.length_map]; omega
  rintro ρ S11 ⟨ws, lw, ⟨x3, x11, rfl⟩, hS11⟩
  have len11 : S11.length = 4 + Y.length := by have := st_len hS11; simp at this; omega
  refine o_seqP (fun ρ S => Fr2 xs f0 a4 ec w o (some (scr (cs.map D.bl) (.bl ec) (3 + Y.length), .sh)) (some (.lst (ws.map D.str), .sh)) (some (.obj (4 + Y.length), .sh)) ρ ∧ St S (qs m :: (Y ++ [.lst [], .lst []])) (T + 400)) ?_ ?_
  · walk_at "ev"
    rw [len11]
    refine ⟨⟨_, _, rfl⟩, ?_⟩
    have := st_app (d := .lst []) hS11
    simpa using this
  rintro ρ S12 ⟨⟨x3, x11, rfl⟩, hS12⟩
  refine o_seqP (fun ρ S => Fr2 xs f0 a4 ec w o (some (scr (cs.map D.bl) (.bl ec) (3 + Y.length), .sh)) (some (.lst (ws.map D.str), .sh)) (some (.obj (4 + Y.length), .sh)) ρ ∧ St S (qs (m + ws.length) :: (Y ++ [.lst (ws.map D.str), .lst ((cs ++ [ec, ec, ec]).map D.bl)])) (T + 400)) ?_ ?_
  · rw [o_for]
    refine .of (a := ws.map D.str) (S := S12) rfl ?_
    have l2 : ∀ (j : Nat), j ≤ ws.length → True := fun _ _ => trivial
    refine o_forP (fun j ρ S => Fr2 xs f0 a4 ec w o (some (scr (cs.map D.bl) (.bl ec) (3 + Y.length), .sh)) (some (.lst (ws.map D.str), .sh)) (some (.obj (4 + Y.length), .sh)) ρ ∧ St S (qs (m + j) :: (Y ++ [.lst ((ws.take j).map D.str), .lst (((List.range j).map fun i => cs.getD i ec).map D.bl)])) (T + 400)) ⟨⟨_, _, rfl⟩, by simpa using hS12⟩ ?_ ?_
    · rintro j d ρ S13 hd ⟨⟨x3, x11, rfl⟩, hS13⟩
      have hj := (List.getElem?_eq_some_iff.mp hd).1
      rw [List.length_map] at hj
      obtain ⟨x, hx⟩ : ∃ x, ws[j]? = some x := ⟨ws[j], List.getElem?_eq_getElem hj⟩
      have ed : d = .str x := by
        rw [List.getElem?_map, hx] at hd
        exact (Option.some.inj hd).symm
      subst ed
      have tk : (ws.take j).length = j := by rw [List.length_take]; omega
      have hN : S13[3 + Y.length]? = some (.lst ((ws.take j).map D.str)) := by
        have := st_at (i := 1 + Y.length) hS13
        rw [show 2 + (1 + Y.length) = 3 + Y.length by omega] at this
        rw [this, show 1 + Y.length = Y.length + 1 by omega, List.getElem?_cons_succ, List.getElem?_append_right (Nat.le_refl _)]
        simp
      have hT : S13[4 + Y.length]? = some (.lst (((List.range j).map fun i => cs.getD i ec).map D.bl)) := by
        have := st_at (i := 2 + Y.length) hS13
        rw [show 2 + (2 + Y.length) = 4 + Y.length by omega] at this
        rw [this, show 2 + Y.length = (Y.length + 1) + 1 by omega, List.getElem?_cons_succ, List.getElem?_append_right (by omega)]
        simp
      have h2 : S13[2]? = some (qs (m + j)) := by have := st_at (i := 0) hS13; simpa using this
      obtain ⟨f3, e1⟩ := h.ca (cs.map D.bl) ((ws.take j).map D.str) (.bl ec) (.str x) (3 + Y.length) .sh .sh S13 hN rfl (by rw [List.length_map]; omega) (by rw [List.length_map, tk]; omega) ⟨x, rfl⟩
      rw [List.length_map, tk, show (cs.map D.bl).getD j (.bl ec) = .bl (cs.getD j ec) by rw [List.getD_eq_getElem?_getD, List.getD_eq_getElem?_getD, List.getElem?_map]; cases cs[j]? <;> rfl] at e1
      generalize eS : S13.set (3 + Y.length) (.lst ((ws.take j).map D.str ++ [.str x])) = S14 at e1
      have hT4 : S14[4 + Y.length]? = some (.lst (((List.range j).map fun i => cs.getD i ec).map D.bl)) := by
        rw [← eS, List.getElem?_set_ne (by omega)]; exact hT
      have lf : leakOk (.bl (cs.getD j ec), f3) = true := isB_leak rfl
      refine o_seqP (fun ρ S => Fr2 xs f0 a4 ec w o (some (scr (cs.map D.bl) (.bl ec) (3 + Y.length), .sh)) (some (.lst (ws.map D.str), .sh)) (some (.obj (4 + Y.length), .sh)) ρ ∧ S = S14.set (4 + Y.length) (.lst ((((List.range j).map fun i => cs.getD i ec).map D.bl) ++ [.bl (cs.getD j ec)]))) ?_ ?_
      · unfold scr at e1 ⊢
        walk_at "ev"
        refine ⟨⟨_, by rw [hT]; rfl⟩, ?_⟩
        rw [e1]
        walk_at "ev"
        exact ⟨_, by rw [hT4]; rfl, by simp only [List.length_map, List.length_range]; exact small' (by omega), ⟨_, _, rfl⟩, rfl⟩
      rintro ρ S15 ⟨⟨x3, x11, rfl⟩, rfl⟩
      have h2' : (S14.set (4 + Y.length) (.lst ((((List.range j).map fun i => cs.getD i ec).map D.bl) ++ [.bl (cs.getD j ec)])))[2]? = some (.lst ((List.replicate (m + j) "q").map D.str)) := by
        rw [List.getElem?_set_ne (by omega), ← eS, List.getElem?_set_ne (by omega)]
        exact h2
      generalize eS2 : S14.set (4 + Y.length) (.lst ((((List.range j).map fun i => cs.getD i ec).map D.bl) ++ [.bl (cs.getD j ec)])) = S16 at h2' ⊢
      obtain ⟨f4, e4⟩ := h.ca [] ((List.replicate (m + j) "q").map D.str) (.bl false) (.str "q") 2 .sh .sh S16 h2' rfl (by decide) (by simp; omega) ⟨"q", rfl⟩
      rw [show ([] : List D).getD ((List.replicate (m + j) "q").map D.str).length (.bl false) = .bl false from rfl] at e4
      have ist : oIsBN true (.bl false, f4) (.bl false, .sh) (S16.set 2 (.lst ((List.replicate (m + j) "q").map D.str ++ [.str "q"]))) = some (.bl false, .sh) := rfl
      unfold scr at e4 ⊢
      walk_at "ev"
      rw [e4]
      walk_at "ev"
      rw [ist]
      walk_at "ev"
      try rw [if_neg (by decide)]
      refine ⟨⟨_, _, rfl⟩, ?_⟩
      have q1 := st_put (i := 1 + Y.length) (d := .lst ((ws.take j).map D.str ++ [.str x])) hS13
      rw [show 2 + (1 + Y.length) = 3 + Y.length by omega, eS] at q1
      have q2 := st_put (i := 2 + Y.length) (d := .lst ((((List.range j).map fun i => cs.getD i ec).map D.bl) ++ [.bl (cs.getD j ec)])) q1
      rw [show 2 + (2 + Y.length) = 4 + Y.length by omega, eS2] at q2
      have q3 := st_put (i := 0) (d := .lst ((List.replicate (m + j) "q").map D.str ++ [.str "q"])) q2
      have eq : (.lst ((List.replicate (m + j) "q").map D.str ++ [.str "q"]) : D) = qs (m + (j + 1)) := by
        unfold qs
        rw [show m + (j + 1) = m + j + 1 by omega, List.replicate_succ', List.map_append]; rfl
      rw [eq] at q3 ⊢
      rw [show (ws.take (j + 1)).map D.str = (ws.take j).map D.str ++ [.str x] by rw [List.take_add_one, hx]; simp,
        show ((List.range (j + 1)).map fun i => cs.getD i ec).map D.bl = (((List.range j).map fun i => cs.getD i ec).map D.bl) ++ [.bl (cs.getD j ec)] by rw [List.range_succ]; simp]
      generalize hA : (.lst ((ws.take j).map D.str ++ [.str x]) : D) = A at q3 ⊢
      generalize hB : (.lst ((((List.range j).map fun i => cs.getD i ec).map D.bl) ++ [.bl (cs.getD j ec)]) : D) = B at q3 ⊢
      rw [show 1 + Y.length = Y.length + 1 by omega, show 2 + Y.length = Y.length + 1 + 1 by omega] at q3
      simp only [List.set_cons_succ, List.set_cons_zero] at q3
      rw [List.set_append_right _ _ (Nat.le_refl _), List.set_append_right _ _ (by omega)] at q3
      simpa using q3
    · rintro ρ S13 ⟨f, hS13⟩
      refine ⟨f, ?_⟩
      rw [List.length_map, List.take_of_length_le (Nat.le_refl _), lw, told_all] at hS13
      rw [lw]
      exact hS13
  rintro ρ S13 ⟨⟨x3, x11, rfl⟩, hS13⟩
  have hN : S13[3 + Y.length]? = some (.lst (ws.map D.str)) := by
    have := st_at (i := 1 + Y.length) hS13
    rw [show 2 + (1 + Y.length) = 3 + Y.length by omega] at this
    rw [this, show 1 + Y.length = Y.length + 1 by omega, List.getElem?_cons_succ, List.getElem?_append_right (Nat.le_refl _)]
    simp
  have hT : S13[4 + Y.length]? = some (.lst ((cs ++ [ec, ec, ec]).map D.bl)) := by
    have := st_at (i := 2 + Y.length) hS13
    rw [show 2 + (2 + Y.length) = 4 + Y.length by omega] at this
    rw [this, show 2 + Y.length = (Y.length + 1) + 1 by omega, List.getElem?_cons_succ, List.getElem?_append_right (by omega)]
    simp
  have ak := h.ask (cs.map D.bl) (ws.map D.str) (.bl ec) (3 + Y.length) .sh S13 hN (by rw [List.length_map]; omega)
  obtain ⟨y, _, ry⟩ := repr_ok (bls_plain (cs ++ [ec, ec, ec])) (bls_show _) (Nat.le_trans (bls_len _) (by simp; omega)) (Nat.le_trans (bls_dep _) (by decide))
  have rt : oRepr (.obj (4 + Y.length), .sh) S13 = some (.str y, .sh) := by
    rw [← ry .sh S13]
    unfold oRepr
    rw [show view S13 (.obj (4 + Y.length)) = .lst ((cs ++ [ec, ec, ec]).map D.bl) by simp [view, hT]]
    rfl
  subst ea
  refine o_seqP (fun ρ S => Fr2 xs f0 (.tup (cs.map D.bl)) ec w o (some (scr (cs.map D.bl) (.bl ec) (3 + Y.length), .sh)) (some (.lst (ws.map D.str), .sh)) (some (.obj (4 + Y.length), .sh)) ρ ∧ S = S13) ?_ ?_
  · unfold scr at ak ⊢
    walk_at "ev"
    rw [rt]
    walk_at "ev"
    rw [if_pos ⟨by decide, by decide, small (by decide)⟩]
    rw [show (List.replicate (Int.toNat 3) [D.bl ec]).flatten = [D.bl ec, .bl ec, .bl ec] from rfl]
    walk_at "ev"
    have ap : cs.map D.bl ++ [D.bl ec, .bl ec, .bl ec] = (cs ++ [ec, ec, ec]).map D.bl := by simp
    rw [if_pos (by rw [List.length_map]; exact small (by omega)), ap]
    walk_at "ev"
    rw [ry]
    walk_at "ev"
    rw [ak]
    walk_at "ev"
    have pw : plain (.lst (ws.map D.str)) = true := by
      simp only [plain]; exact plains_strs ws
    have dw : dep (.lst (ws.map D.str)) ≤ 190 := by
      have := deps_le (n := 0) (ds := ws.map D.str) fun x hx => by
        obtain ⟨b, _, rfl⟩ := List.mem_map.mp hx
        simp [dep]
      simp only [dep]; omega
    rw [show oNe (.lst (ws.map D.str), Fl.own) (.lst (ws.map D.str), Fl.sh) S13 = some (.bl false, .sh) by
      simp [oNe, view, pw, dw, deq_refl _ pw]]
    walk_at "ev"
    rw [if_neg (by simp)]
    exact ⟨_, _, rfl⟩
  rintro ρ S14 ⟨f, rfl⟩
  exact fin _ _ _ _ _ _ _ (by omega) f hS13
theorem law_sem {E : Sem} (h : LawB E) (xs : List Int) (fl : Fl) (hl : xs.length ≤ 1000) : WR ((step E).law [(.frl (xs.map D.int), fl)] []) fun r _ => r = (.bl true, .sh) := by
  show WR (bodyY 13 (v_law E) _ _) _
  unfold v_law
  walk_at "ev"
  refine (h.bg xs _ hl).mono ?_
  rintro _ S1 ⟨rfl, hS1⟩
  walk_at "ev"
  have l2 : S1.length = 2 := by simpa using st_len hS1
  rw [h.sc.yes [] (.bl false) _ _ S1 ⟨rfl, fun ds e => by cases e; exact ⟨by decide, fun x hx => by cases hx⟩⟩ rfl rfl, l2]
  walk_at "ev"
  refine ⟨by decide, ?_⟩
  refine o_forP (fun n ρ S => ∃ m Y T x4 x5 x6 x7, Fr xs (lend fl) x4 x5 x6 x7 ρ ∧ St S (qs m :: Y) T ∧ m ≤ 20 * n ∧ T ≤ 1000 * n) ⟨0, [], 0, none, none, none, none, ⟨none, none, none, none, none, rfl⟩, st_app hS1, by omega, by omega⟩ ?_ ?_
  · rintro n d ρ S2 hd ⟨m, Y, T, x4, x5, x6, x7, ⟨x3, x8, x9, x10, x11, rfl⟩, hS2, hm, hT⟩
    have hn := (List.getElem?_eq_some_iff.mp hd).1
    rw [rng_len] at hn
    have hn4 : n < 12 := hn
    refine o_seqP (fun ρ S => ∃ (bs : List Bool) (b : Bool) (x6 x7 : Option RV), bs.length ≤ 12 ∧ Fr xs (lend fl) (some (.tup (bs.map D.bl), .sh)) (some (.bl b, .sh)) x6 x7 ρ ∧ St S (qs m :: Y) (T + 15)) ?_ ?_
    · walk_at "ev"
      refine (h.an S2 _ T .sh hS2 (by unfold lim; omega)).mono ?_
      rintro _ S3 ⟨bs, few, rfl, hS3⟩
      walk_at "ev"
      refine (h.dr S3 _ _ 2 .sh hS3 (by unfold lim; omega) (by decide) (by decide)).mono ?_
      rintro _ S4 ⟨j, rfl, j0, j1, hS4⟩
      walk_at "ev"
      refine ⟨bs, _, _, _, few, ⟨_, _, _, _, _, rfl⟩, hS4.more (by omega)⟩
    rintro ρ S3 ⟨bs, b, x6, x7, few, ⟨x3, x8, x9, x10, x11, rfl⟩, hS3⟩
    refine o_seqP (fun ρ S => ∃ (w : Int) (x7 : Option RV), Fr xs (lend fl) (some (.tup (bs.map D.bl), .sh)) (some (.bl b, .sh)) (some (.int w, .sh)) x7 ρ ∧ St S (qs m :: Y) (T + 16)) ?_ ?_
    · walk_at "ev"
      refine (h.dr S3 _ _ 6 .sh hS3 (by unfold lim; omega) (by decide) (by decide)).mono ?_
      rintro _ S4 ⟨w, rfl, j0, j1, hS4⟩
      walk_at "ev"
      exact ⟨w, _, ⟨_, _, _, _, _, rfl⟩, hS4.more (by omega)⟩
    rintro ρ S4 ⟨w, x7, ⟨x3, x8, x9, x10, x11, rfl⟩, hS4⟩
    refine o_seqP (fun ρ S => ∃ (o : D), Odd o ∧ Fr xs (lend fl) (some (.tup (bs.map D.bl), .sh)) (some (.bl b, .sh)) (some (.int w, .sh)) (some (o, .sh)) ρ ∧ St S (qs m :: Y) (T + 17)) ?_ ?_
    · walk_at "ev"
      refine (h.pk S4 _ _ .sh .own _ _ hS4 (by unfold lim; omega) rfl (by decide) (by decide)).mono ?_
      rintro _ S5 ⟨o, rfl, ho, hS5⟩
      have od : Odd o := odd_of ((by decide : ∀ o ∈ [D.non, D.int 0, D.int 1, D.str "y", D.lst [], D.tup [], D.str "True", D.int 5], oddB o = true) o ho)
      refine ⟨tm_leak od.ok.tm, ?_⟩
      walk_at "ev"
      exact ⟨o, od, ⟨_, _, _, _, _, rfl⟩, hS5.more (by omega)⟩
    rintro ρ S5 ⟨o, od, ⟨x3, x8, x9, x10, x11, rfl⟩, hS5⟩
    refine o_seqP (fun ρ S => ∃ (ds : List D), (ds.length ≤ 13 ∧ ∀ x ∈ ds, tm x = true ∧ plain x = true ∧ dep x ≤ 3) ∧ Fr xs (lend fl) (some (.tup ds, .sh)) (some (.bl b, .sh)) (some (.int w, .sh)) (some (o, .sh)) ρ ∧ St S (qs m :: Y) (T + 17)) ?_ ?_
    · have bl : ∀ x ∈ bs.map D.bl, tm x = true ∧ plain x = true ∧ dep x ≤ 3 := fun x hx => by
        obtain ⟨b, _, rfl⟩ := List.mem_map.mp hx
        exact ⟨rfl, rfl, by simp [dep]⟩
      walk_at "ev"
      by_cases w0 : w = 0
      · rw [if_pos w0]
        rw [if_pos (by rw [List.length_map]; exact small (by omega))]
        walk_at "ev"
        refine ⟨_, ⟨by simp; omega, fun x hx => ?_⟩, ⟨_, _, _, _, _, rfl⟩, hS5⟩
        rcases List.mem_append.mp hx with q | q
        · exact bl x q
        · rw [List.mem_singleton.mp q]
          exact ⟨od.ok.tm, od.pl, od.dp⟩
      · rw [if_neg w0]
        exact ⟨_, ⟨by simp; omega, bl⟩, ⟨_, _, _, _, _, rfl⟩, hS5⟩
    rintro ρ S6 ⟨ds, ⟨dl, dall⟩, ⟨x3, x8, x9, x10, x11, rfl⟩, hS6⟩
    refine o_seqP (fun ρ S => ∃ (a : D), Okd a ∧ (∀ zs, a = .tup zs → zs.length ≤ 14) ∧ Fr xs (lend fl) (some (a, .sh)) (some (.bl b, .sh)) (some (.int w, .sh)) (some (o, .sh)) ρ ∧ St S (qs m :: Y) (T + 18)) ?_ ?_
    · have okds : Okd (.tup ds) := ⟨rfl, fun z q => by
        cases q
        exact ⟨by omega, fun x hx => ⟨(dall x hx).1, (dall x hx).2.1, by have := (dall x hx).2.2; omega⟩⟩⟩
      walk_at "ev"
      by_cases w1 : w = 1
      · rw [if_pos w1]
        rw [if_pos (small (by omega))]
        walk_at "ev"
        refine (h.pk S6 _ _ .sh .own _ _ hS6 (by unfold lim; omega) rfl (by simp) (by simp)).mono ?_
        rintro _ S7 ⟨a, rfl, ha, hS7⟩
        walk_at "ev"
        refine ⟨a, ?_, ?_, ⟨_, _, _, _, _, rfl⟩, hS7.more (by omega)⟩
        all_goals simp only [List.mem_cons, List.not_mem_nil, or_false] at ha
        rotate_left
        · intro zs ez
          rcases ha with rfl | rfl | rfl
          · cases ez
          · exact od.few zs ez
          · cases ez
            simp; omega
        rcases ha with rfl | rfl | rfl
        · exact ⟨rfl, fun z q => by cases q⟩
        · exact od.ok
        · refine ⟨rfl, fun z q => ?_⟩
          cases q
          refine ⟨by simp; omega, fun x hx => ?_⟩
          rcases List.mem_append.mp hx with q | q
          · exact ⟨(dall x q).1, (dall x q).2.1, by have := (dall x q).2.2; omega⟩
          · rw [List.mem_singleton.mp q]
            exact ⟨rfl, rfl, by decide⟩
      · rw [if_neg w1]
        exact ⟨_, okds, fun zs ez => by cases ez; omega, ⟨_, _, _, _, _, rfl⟩, hS6.more (by omega)⟩
    rintro ρ S7 ⟨a, oka, clen0, ⟨x3, x8, x9, x10, x11, rfl⟩, hS7⟩
    refine o_seqP (fun ρ S => ∃ (e : D), tm e = true ∧ Fr xs (lend fl) (some (a, .sh)) (some (e, .sh)) (some (.int w, .sh)) (some (o, .sh)) ρ ∧ St S (qs m :: Y) (T + 18)) ?_ ?_
    · walk_at "ev"
      by_cases w2 : w = 2
      · rw [if_pos w2]
        exact ⟨_, od.ok.tm, ⟨_, _, _, _, _, rfl⟩, hS7⟩
      · rw [if_neg w2]
        exact ⟨_, rfl, ⟨_, _, _, _, _, rfl⟩, hS7⟩
    rintro ρ S8 ⟨e, te, ⟨x3, x8, x9, x10, x11, rfl⟩, hS8⟩
    have hk : S8[2]? = some (qs m) := by have := st_at (i := 0) hS8; simpa using this
    have len8 : S8.length = 3 + Y.length := by have := st_len hS8; simp at this; omega
    cases hg : goodD a e with
    | false =>
      walk_at "ev"
      rw [h.md.no a e _ _ S8 oka te hg]
      walk_at "ev"
      rw [h.gd a e _ _ S8 oka te, hg]
      walk_at "ev"
      rw [show oNe (.lst [.str "NoAnswer", .non], Fl.sh) (.lst [.str "NoAnswer", .non], Fl.own) S8 = some (.bl false, .sh) by simp [oNe, view, plain, plains, dep, deps, deq, deqs]]
      walk_at "ev"
      try rw [if_neg (by decide)]
      exact ⟨m, Y, _, _, _, _, _, ⟨_, _, _, _, _, rfl⟩, hS8, by omega, by omega⟩
    | true =>
      obtain ⟨cs, ec, ea, rfl⟩ := good_bls hg
      have few3 : cs.length ≤ 14 := by have := clen0 _ ea; simpa using this
      refine o_seqP (fun ρ S => Fr2 xs (lend fl) a ec w o (some (scr (cs.map D.bl) (.bl ec) (3 + Y.length), .sh)) x9 x10 ρ ∧ St S (qs m :: (Y ++ [.lst []])) (T + 18)) ?_ ?_
      · walk_at "ev"
        have my := h.md.yes (cs.map D.bl) (.bl ec) .sh .sh S8 (ea ▸ oka) te (ea ▸ hg)
        rw [← ea] at my
        rw [my, len8]
        walk_at "ev"
        exact ⟨⟨_, _, rfl⟩, st_app hS8⟩
      rintro ρ S9 ⟨⟨x3, x11, rfl⟩, hS9⟩
      refine o_seqP (fun ρ S => Fr2 xs (lend fl) a ec w o (some (scr (cs.map D.bl) (.bl ec) (3 + Y.length), .sh)) x9 x10 ρ ∧ St S (qs m :: (Y ++ [.lst []])) (T + 18)) ?_ ?_
      · have gd := h.gd a (.bl ec) .sh .sh S9 oka te
        rw [hg] at gd
        rw [o_if]
        walk_at "ev"
        rw [gd]
        walk_at "ev"
        exact ⟨⟨_, _, rfl⟩, hS9⟩
      rintro ρ S10 ⟨⟨x3, x11, rfl⟩, hS10⟩
      refine tail_sem h ea few3 (by omega) (by omega) hS10 ?_
      rintro ρ S y8 y9 y10 m' Y' hm' ⟨y3, y11, rfl⟩ hS
      exact ⟨m', Y', _, _, _, _, _, ⟨_, _, _, _, _, rfl⟩, hS, by omega, by omega⟩
  · rintro ρ S2 ⟨m, Y, T, x4, x5, x6, x7, ⟨x3, x8, x9, x10, x11, rfl⟩, hS2, hm, hT⟩
    have hk : S2[2]? = some (qs m) := by have := st_at (i := 0) hS2; simpa using this
    walk_at "ev"
    have ak := h.ask [] ((List.replicate m "q").map D.str) (.bl false) 2 .sh S2 hk (by rw [rng_len] at hm; simp at hm ⊢; omega)
    unfold scr at ak ⊢
    walk_at "ev"
    rw [ak]
    walk_at "ev"
    have e1 : oSortSet1 (.lst ((List.replicate m "q").map D.str), Fl.own) S2 = some (.lst (if m = 0 then [] else [.str "q"]), .own) := by
      unfold oSortSet1
      simp only [view, lstOf, Option.bind_some, strD_map]
      cases m with
      | zero => rfl
      | succ m => simp [List.replicate_succ]
    rw [e1]
    have e2 : oIn (.lst (if m = 0 then [] else [D.str "q"]), Fl.own) (.lst [.lst [], .lst [.str "q"]], Fl.own) S2 = some (.bl true, .sh) := by
      by_cases hm0 : m = 0
      · simp [hm0, oIn, oInG, view, inSeq, plain, plains, dep, deps, memD, deq, deqs]
      · simp [hm0, oIn, oInG, view, inSeq, plain, plains, dep, deps, memD, deq, deqs]
    walk_at "ev"
    rw [e2]
    exact ⟨rfl, rfl⟩
end K05

set_option maxRecDepth 100000
set_option maxHeartbeats 4000000
namespace K05
open DL DE
theorem h_draw (n : Nat) : DrawOk (sem (n + 1)).L_draw := draw_sem (sem n)
theorem h_pick (n : Nat) : PickOk (sem (n + 2)).L_pick := pick_sem (h_draw n)
theorem h_kept (n : Nat) : KeptOk (sem (n + 1)).L_kept := kept_sem (sem n)
theorem h_word (n : Nat) : WordF (sem (n + 3)).L_word := word_sem (h_draw (n + 1)) (h_pick n) (h_kept (n + 1))
theorem h_script (n : Nat) : ScriptO (sem (n + 2)).i_Script := script_sem (E := sem (n + 1)) rfl (ans_sem (sem n))
theorem h_law : LawB (sem 48) where
  bg := begin_sem _
  dr := .of (h_draw 47)
  pk := .of (h_pick 46)
  wd := .of (h_word 45)
  an := answers_sem (.of (h_draw 46))
  sc := h_script 46
  ca := call_sem _
  ask := asked_sem _
  md := made_sem (h_script 45) (kind_sem _)
  gd := good_sem _
theorem law_true (xs : List Int) (fl : Fl) (hl : xs.length ≤ 1000) : ∃ S, (sem 49).law [(.frl (xs.map D.int), fl)] [] = .ok (.bl true, .sh) S := by
  obtain ⟨r, S, e, h⟩ := (law_sem h_law xs fl hl).ex
  subst h
  exact ⟨S, e⟩
end K05

set_option maxRecDepth 100000
set_option maxHeartbeats 4000000
namespace DL
open PySem L2
theorem reps_ints {w : Wd} {m : List Addr} {Z : Addr → Prop} {H : Hp} : ∀ ns : List Int, Reps w m Z H (ns.map D.int) (ns.map V.int)
  | [] => .nil
  | n :: r => .cons (.int n) (reps_ints r)
/-- the law's promise, of its script -/
theorem law_said {K : PySem.W.Frag} {cl : Nat → Addr} {F : SF} {H : Hp} {a : Addr} {ns : List Int} {E : XK} (h : ∃ S, F [(.frl (ns.map D.int), .sh)] [] = .ok (.bl true, .sh) S)
    (hs : KLst K a (ns.map V.int) ∧ (∀ b, H b = none) ∨ ∃ o, H a = some (.frz o (.lst (ns.map V.int)))) : spF ⟨K, cl⟩ 1 F [.ref a] H (fun v _ => v = .bl true) E := by
  obtain ⟨S, e⟩ := h
  refine ⟨⟨[], [], [], none⟩, [(.frl (ns.map D.int), .sh)], [], ⟨⟨rfl, fun n d q => by simp at q⟩, List.nodup_nil, fun b q => by simp at q, fun b q => by rcases q with q | q | q <;> simp at q, rfl, rfl⟩, .cons ?_ .nil, rfl, ?_⟩
  · show Rep _ _ _ _ _ _
    rcases hs with ⟨hk, _⟩ | ⟨o, ho⟩
    · exact .gfrl hk (reps_ints ns)
    · exact .frl ho (reps_ints ns)
  · show PostC _ _ _ _ (F _ _)
    rw [e]
    rintro v H' ⟨g', _, _, _, _, _, _, r⟩
    exact Rep.bl' r
end DL
namespace K05
open PySem L2 DL
theorem oks_zero {P : Program} {pw : World} {K : PySem.W.Frag} {mg : Str → Option Value} {base : Heap} {T : Txt K mg} : Oks P pw K mg base T 0 (sem 0) := by
  constructor
  all_goals first
    | exact bad_fnY
    | exact bad_initY
    | exact bad_fnO
    | exact fun h => nomatch h
theorem oks {P : Program} {pw : World} {K : PySem.W.Frag} {mg : Str → Option Value} {base : Heap} {T : Txt K mg} : ∀ n, Oks P pw K mg base T n (sem n)
  | 0 => oks_zero
  | n + 1 => oks_succ (oks n)
theorem all_of {P : Program} {pw : World} {K : PySem.W.Frag} {h : Heap} {mg : Str → Option Value} {fa : Addr} (X : K.In h) (G : h.Ns mainGlobals mg) (hfa : mg "law" = some (.ref fa)) (c : txtB K = true) (hf : (adrs K).map (fnWA K) = vals) :
    ∃ fd : FuncData, (∀ (s : Shared) (v : Value), BindsTo s fd ⟨[v], []⟩ [("_law_script", v)]) ∧ ∀ base : Heap, K.In base → base.Ns mainGlobals mg → FnG P pw K mg base 98 fa fd ["_law_script"] (spF ⟨K, clA K⟩ 1 (sem 49).law) := by
  obtain ⟨T, e1, e2, hb⟩ := txt_of X G c hf
  have e := hfa.symm.trans T.m_law
  cases e
  refine ⟨T.d_law, hb, fun base _ _ => ?_⟩
  have q := fnG_of (oks (P := P) (pw := pw) (base := base) (T := T) 49).law
  rw [show T.w = ⟨K, clA K⟩ by unfold Txt.w; rw [e1]] at q
  exact q
end K05

open PySem PySem.W PyProof.Rows in
set_option maxRecDepth 100000 in
set_option maxHeartbeats 0 in
theorem PySem.Challenge.cw_fewmodes_k05_scripts_refused_holds : PySem.Challenge.rw_fewmodes_k05_scripts_refused.Holds := by
  w_on; o_law; k_head; (case hw => w_witness2)
  k_fill
  refine DL.walk_G (l := PySem.Challenge.rw_fewmodes_k05_scripts_refused) (n := 63) (k := 98) (x := "_law_script") (sp := fun K => DL.spF ⟨K, K05.clA K⟩ 1 (K05.sem 49).law) rfl (by decide) rfl ⟨rfl, by decide, by decide⟩ (fun w h Y => PySem.W.kIn_of Y) ?F ?S
  case F =>
    intro w mg fa h KX G hmg
    refine K05.all_of KX G hmg ?c ?hf
    case c => kernel_rfl
    case hf => kernel_rfl
  case S =>
    intro K H a ns hl _ hs
    exact DL.law_said (K05.law_true ns .sh (by omega)) hs

