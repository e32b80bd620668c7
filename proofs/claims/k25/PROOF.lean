import PyProof.Rows.All
import Wide.All
import OpenK.AllK
import Wide.FinOn
import HandS.Base
import HandS.Call
import HandS.List
import HandS.Comp
import HandS.Dict
import HandS.Iter
import HandS.Text
import HandS.Words
import HandS.Exc
import HandS.ExcOwn
import HandS.Codes
import HandS.IsInst
import HandS.Wide
import HandS.TupAny
import HandS.TupMul
import HandS.Style
import HandS.Conv
import HandS.Property
import KE.KOpsOwn
import PyProof.ReprRoads
import HandS.EndBits
import HandS.TryOnly
import HandS.Defaults
import HandS.HeadHook2
import HandS.ClsMeth
import PyProof.StrLawsRepr
import PyProof.Rows.RegStrFacts
import PySem.Challenge.RW_fewmodes_k25_programs_made
set_option Elab.async false
set_option linter.all false
set_option maxRecDepth 100000
/-! The value layer: deep values, where they stand in the abstract heap, steps of that heap. -/
namespace DL
open PySem L2

/-- a value as it is thought of: no addresses but those of the objects with a name of their own (obj) -/
inductive D where
  | non
  | bl (b : Bool)
  | int (i : Int)
  | str (x : String)
  | tup (ds : List D)
  | lst (ds : List D)
  | frl (ds : List D)
  | dk (kvs : List (D × D))
  | dt (kvs : List (D × D))
  | ins (c : Nat) (fs : List (String × D))
  | exc (c : Nat) (fs : List (String × D))
  | obj (n : Nat)
  deriving Inhabited

/-- how a value is held: shared by anyone, one's own (as an answer: new), lent by a caller, read off a name that holds one's own -/
inductive Fl where
  | sh | own | bor | mine
  deriving DecidableEq, Inhabited

abbrev RV := D × Fl
abbrev Store := List D
abbrev Loc := List (Option RV)

/-- a thing with contents that may change -/
def box : D → Bool
  | .lst _ => true
  | .dk _ => true
  | .dt _ => true
  | .ins _ _ => true
  | _ => false

inductive R (α : Type) where
  | ok (a : α) (S : Store)
  | exc (x : D) (S : Store)
  | bad

def R.go {α T : Type} (ex : D → Store → T) (bd : T) : R α → (α → Store → T) → T
  | .ok a S, f => f a S
  | .exc x S, _ => ex x S
  | .bad, _ => bd
abbrev R.bind {α β : Type} (r : R α) (f : α → Store → R β) : R β := r.go .exc .bad f

/-! ### where values stand -/
abbrev s2 (x : String) : Str := Str.ofString x
/-- the key of a dict -/
def dKey : D → Option Key
  | .int i => some (.inl i)
  | .str x => some (.inr (s2 x))
  | _ => none
def dKeys : List D → Option (List Key)
  | [] => some []
  | d :: ds => match dKey d, dKeys ds with
    | some k, some ks => some (k :: ks)
    | _, _ => none
def dKeyT : D → Option (List Key)
  | .tup ds => dKeys ds
  | _ => none

/-- contents that may change -/
def boxO : HO → Bool
  | .dK _ => true
  | .dT _ => true
  | _ => false
def exO : HO → Bool
  | .lst _ => true
  | .ins _ _ _ => true
  | _ => false
/-- the fixed facts: the written part, the classes' addresses -/
structure Wd where
  K : PySem.W.Frag
  cl : Nat → Addr

/-- the object of a caught exception -/
def ExcO (cls : Value) (d : Option Addr) (a : Addr) : HO := .ext fun h => ∃ (oe : Obj) (vs : Array Value), h.get? a = some oe ∧ Zc cls d oe ∧ oe.data = .fields vs

/-- a tuple, a list of the written part -/
def KTup (K : PySem.W.Frag) (a : Addr) (xs : List V) : Prop :=
  ∃ (o : Obj) (its : Array Value) (n : Nat), K.lookup a = some o ∧ o.cls = .type "tuple" ∧ o.data = .seq its n ∧ its.size ≤ sizeLine ∧ Vals xs its.toList
def KLst (K : PySem.W.Frag) (a : Addr) (xs : List V) : Prop :=
  ∃ (o : Obj) (its : Array Value) (n : Nat), K.lookup a = some o ∧ o.cls = .type "list" ∧ o.dict = none ∧ o.data = .seq its n ∧ its.size ≤ sizeLine ∧ Vals xs its.toList

section
variable (w : Wd) (m : List Addr) (Z : Addr → Prop) (H : Hp)
mutual
/-- the value d is v, at the heap H: no box of it stands at an address of m or of Z -/
inductive Rep : D → V → Prop where
  | non : Rep .non .non
  | bl (b : Bool) : Rep (.bl b) (.bl b)
  | int (i : Int) : Rep (.int i) (.int i)
  | str (x : String) : Rep (.str x) (.str (s2 x))
  | tup {a : Addr} {vs : List V} {ds : List D} : H a = some (.tup vs) → Reps ds vs → Rep (.tup ds) (.ref a)
  | gtup {a : Addr} {vs : List V} {ds : List D} : KTup w.K a vs → Reps ds vs → Rep (.tup ds) (.ref a)
  | frl {a : Addr} {vs : List V} {ds : List D} {o : Obj} : H a = some (.frz o (.lst vs)) → Reps ds vs → Rep (.frl ds) (.ref a)
  | gfrl {a : Addr} {vs : List V} {ds : List D} : KLst w.K a vs → Reps ds vs → Rep (.frl ds) (.ref a)
  | box {a : Addr} {d : D} : Box d a → ¬ Z a → a ∉ m → Rep d (.ref a)
  | obj {n : Nat} {a : Addr} : m[n]? = some a → Rep (.obj n) (.ref a)
  | exc0 {c : Nat} {a : Addr} : H a = some (ExcO (.ref (w.cl c)) none a) → Rep (.exc c []) (.ref a)
  | excF {c : Nat} {a dd : Addr} {fs : List (String × D)} {gs : List (Str × V)} : H a = some (ExcO (.ref (w.cl c)) (some dd) a) → H dd = some (.xd gs) → RepN fs gs → Rep (.exc c fs) (.ref a)
/-- the contents of the box d stand at a, to be read -/
inductive Box : D → Addr → Prop where
  | lst {a : Addr} {vs : List V} {ds : List D} : H a = some (.lst vs) → Reps ds vs → Box (.lst ds) a
  | dk {a : Addr} {kvs : List (D × D)} {ks : List (Key × V)} : Rd H a (.dK ks) → RepK kvs ks → Box (.dk kvs) a
  | dt {a : Addr} {kvs : List (D × D)} {ks : List (List Key × V)} : Rd H a (.dT ks) → RepT kvs ks → Box (.dt kvs) a
  | ins {a dx : Addr} {c : Nat} {fs : List (String × D)} {gs : List (Str × V)} : H a = some (.ins (w.cl c) dx gs) → RepN fs gs → Box (.ins c fs) a
inductive Reps : List D → List V → Prop where
  | nil : Reps [] []
  | cons {d : D} {v : V} {ds : List D} {vs : List V} : Rep d v → Reps ds vs → Reps (d :: ds) (v :: vs)
inductive RepK : List (D × D) → List (Key × V) → Prop where
  | nil : RepK [] []
  | cons {k d : D} {q : Key} {v : V} {kvs : List (D × D)} {ks : List (Key × V)} : dKey k = some q → Rep d v → RepK kvs ks → RepK ((k, d) :: kvs) ((q, v) :: ks)
inductive RepT : List (D × D) → List (List Key × V) → Prop where
  | nil : RepT [] []
  | cons {k d : D} {q : List Key} {v : V} {kvs : List (D × D)} {ks : List (List Key × V)} : dKeyT k = some q → Rep d v → RepT kvs ks → RepT ((k, d) :: kvs) ((q, v) :: ks)
inductive RepN : List (String × D) → List (Str × V) → Prop where
  | nil : RepN [] []
  | cons {x : String} {d : D} {v : V} {fs : List (String × D)} {gs : List (Str × V)} : Rep d v → RepN fs gs → RepN ((x, d) :: fs) ((s2 x, v) :: gs)
end
/-- .. to be read, wherever the box itself stands -/
def Read (d : D) (v : V) : Prop := Rep w m Z H d v ∨ ∃ a, v = .ref a ∧ Box w m Z H d a ∧ a ∉ m
/-- .. to be written -/
inductive BoxW : D → Addr → Prop where
  | lst {a : Addr} {vs : List V} {ds : List D} : H a = some (.lst vs) → Reps w m Z H ds vs → BoxW (.lst ds) a
  | dk {a : Addr} {kvs : List (D × D)} {ks : List (Key × V)} : H a = some (.dK ks) → RepK w m Z H kvs ks → BoxW (.dk kvs) a
  | dt {a : Addr} {kvs : List (D × D)} {ks : List (List Key × V)} : H a = some (.dT ks) → RepT w m Z H kvs ks → BoxW (.dt kvs) a
  | ins {a dx : Addr} {c : Nat} {fs : List (String × D)} {gs : List (Str × V)} : H a = some (.ins (w.cl c) dx gs) → RepN w m Z H fs gs → BoxW (.ins c fs) a
end
variable {w : Wd} {m m' : List Addr} {Z Z' : Addr → Prop} {H H' : Hp}
theorem BoxW.box {d : D} {a : Addr} (h : BoxW w m Z H d a) : Box w m Z H d a := by
  cases h with
  | lst h r => exact .lst h r
  | dk h r => exact .dk (.of h) r
  | dt h r => exact .dt (.of h) r
  | ins h r => exact .ins h r
theorem Read.of {d : D} {v : V} (h : Rep w m Z H d v) : Read w m Z H d v := .inl h

/-- what a change of the heap must keep so that values stay -/
structure Mono (m : List Addr) (Z : Addr → Prop) (H : Hp) (m' : List Addr) (Z' : Addr → Prop) (H' : Hp) : Prop where
  tup : ∀ a xs, H a = some (.tup xs) → H' a = some (.tup xs)
  box : ∀ a u, boxO u = true → Rd H a u → ¬ Z a → a ∉ m → Rd H' a u ∧ ¬ Z' a ∧ a ∉ m'
  exa : ∀ a o, exO o = true → H a = some o → ¬ Z a → a ∉ m → H' a = some o ∧ ¬ Z' a ∧ a ∉ m'
  frl : ∀ a o xs, H a = some (.frz o (.lst xs)) → H' a = some (.frz o (.lst xs))
  exc : ∀ a cls d, H a = some (ExcO cls d a) → H' a = some (ExcO cls d a)
  xd : ∀ a gs, H a = some (.xd gs) → H' a = some (.xd gs)
  obj : ∀ (n : Nat) a, m[n]? = some a → m'[n]? = some a
section
variable (M : Mono m Z H m' Z' H')
include M
mutual
theorem Rep.mono : ∀ {d : D} {v : V}, Rep w m Z H d v → Rep w m' Z' H' d v
  | _, _, .non => .non
  | _, _, .bl b => .bl b
  | _, _, .int i => .int i
  | _, _, .str x => .str x
  | _, _, .tup h r => .tup (M.tup _ _ h) (Reps.mono r)
  | _, _, .gtup h r => .gtup h (Reps.mono r)
  | _, _, .frl h r => .frl (M.frl _ _ _ h) (Reps.mono r)
  | _, _, .gfrl h r => .gfrl h (Reps.mono r)
  | _, _, .box (.lst h r) z n => let ⟨a, b, c⟩ := M.exa _ _ rfl h z n; .box (.lst a (Reps.mono r)) b c
  | _, _, .box (.dk h r) z n => let ⟨a, b, c⟩ := M.box _ _ rfl h z n; .box (.dk a (RepK.mono r)) b c
  | _, _, .box (.dt h r) z n => let ⟨a, b, c⟩ := M.box _ _ rfl h z n; .box (.dt a (RepT.mono r)) b c
  | _, _, .box (.ins h r) z n => let ⟨a, b, c⟩ := M.exa _ _ rfl h z n; .box (.ins a (RepN.mono r)) b c
  | _, _, .obj h => .obj (M.obj _ _ h)
  | _, _, .exc0 h => .exc0 (M.exc _ _ _ h)
  | _, _, .excF h1 h2 r => .excF (M.exc _ _ _ h1) (M.xd _ _ h2) (RepN.mono r)
theorem Reps.mono : ∀ {ds : List D} {vs : List V}, Reps w m Z H ds vs → Reps w m' Z' H' ds vs
  | _, _, .nil => .nil
  | _, _, .cons h r => .cons (Rep.mono h) (Reps.mono r)
theorem RepK.mono : ∀ {ds : List (D × D)} {vs : List (Key × V)}, RepK w m Z H ds vs → RepK w m' Z' H' ds vs
  | _, _, .nil => .nil
  | _, _, .cons e h r => .cons e (Rep.mono h) (RepK.mono r)
theorem RepT.mono : ∀ {ds : List (D × D)} {vs : List (List Key × V)}, RepT w m Z H ds vs → RepT w m' Z' H' ds vs
  | _, _, .nil => .nil
  | _, _, .cons e h r => .cons e (Rep.mono h) (RepT.mono r)
theorem RepN.mono : ∀ {ds : List (String × D)} {vs : List (Str × V)}, RepN w m Z H ds vs → RepN w m' Z' H' ds vs
  | _, _, .nil => .nil
  | _, _, .cons h r => .cons (Rep.mono h) (RepN.mono r)
end
theorem Read.mono (hb : ∀ a u, boxO u = true → Rd H a u → a ∉ m → Rd H' a u ∧ a ∉ m') (hi : ∀ a o, exO o = true → H a = some o → a ∉ m → H' a = some o ∧ a ∉ m') {d : D} {v : V} (h : Read w m Z H d v) : Read w m' Z' H' d v := by
  rcases h with h | ⟨a, e, h, n⟩
  · exact .inl (h.mono M)
  · refine .inr ⟨a, e, ?_⟩
    cases h with
    | lst h r => exact ⟨.lst (hi _ _ rfl h n).1 (Reps.mono M r), (hi _ _ rfl h n).2⟩
    | dk h r => exact ⟨.dk (hb _ _ rfl h n).1 (RepK.mono M r), (hb _ _ rfl h n).2⟩
    | dt h r => exact ⟨.dt (hb _ _ rfl h n).1 (RepT.mono M r), (hb _ _ rfl h n).2⟩
    | ins h r => exact ⟨.ins (hi _ _ rfl h n).1 (RepN.mono M r), (hi _ _ rfl h n).2⟩
end

/-! ### steps -/
/-- what never changes, wherever it stands -/
def fixO (b : Addr) (o : HO) : Prop := (∃ xs, o = .tup xs) ∨ (∃ cls d, o = ExcO cls d b) ∨ (∃ gs, o = .xd gs) ∨ ∃ ob xs, o = .frz ob (.lst xs)
/-- what an expression does to the heap: all that is tracked stays, but the objects of m; new ones come -/
structure StepE (m : List Addr) (H : Hp) (m' : List Addr) (H' : Hp) : Prop where
  keep : ∀ b o, H b = some o → (b ∉ m ∨ fixO b o) → (∀ ps, o ≠ .tbl ps) → H' b = some o
  grow : ∀ b, H' b = none → H b = none
  ms : ∃ ex, m' = m ++ ex ∧ ∀ b ∈ ex, H b = none
theorem StepE.refl (m : List Addr) (H : Hp) : StepE m H m H := ⟨fun _ _ e _ _ => e, fun _ e => e, [], by simp⟩
theorem StepE.trans {m1 m2 m3 : List Addr} {H1 H2 H3 : Hp} (a : StepE m1 H1 m2 H2) (b : StepE m2 H2 m3 H3) : StepE m1 H1 m3 H3 := by
  obtain ⟨e1, rfl, n1⟩ := a.ms
  obtain ⟨e2, rfl, n2⟩ := b.ms
  refine ⟨fun c o e hm hp => b.keep c o (a.keep c o e hm hp) (hm.imp (fun hm q => ?_) id) hp, fun c e => a.grow c (b.grow c e), e1 ++ e2, by simp, fun c hc => ?_⟩
  · rcases List.mem_append.mp q with q | q
    · exact hm q
    · rw [n1 c q] at e; cases e
  · rcases List.mem_append.mp hc with q | q
    · exact n1 c q
    · exact a.grow c (n2 c q)
theorem rd_ne {H : Hp} {a : Addr} {u : HO} (h : Rd H a u) : H a ≠ none := by
  rcases h with h | ⟨o, h⟩ <;> (rw [h]; simp)
theorem exO_tbl {u : HO} (h : exO u = true) : ∀ ps, u ≠ .tbl ps := fun ps q => by subst q; cases h
theorem boxO_tbl {u : HO} (h : boxO u = true) : ∀ ps, u ≠ .tbl ps := fun ps q => by subst q; cases h
section
variable {m m' : List Addr} {H H' : Hp} (s : StepE m H m' H')
include s
theorem StepE.rd {a : Addr} {u : HO} (h : Rd H a u) (n : a ∉ m) (hp : ∀ ps, u ≠ .tbl ps) : Rd H' a u := by
  rcases h with h | ⟨o, h⟩
  · exact .inl (s.keep _ _ h (.inl n) hp)
  · exact .inr ⟨o, s.keep _ _ h (.inl n) (fun _ q => by cases q)⟩
theorem StepE.notm {a : Addr} (h : H a ≠ none) (n : a ∉ m) : a ∉ m' := by
  obtain ⟨ex, rfl, hx⟩ := s.ms
  intro q
  rcases List.mem_append.mp q with q | q
  · exact n q
  · exact h (hx _ q)
/-- all values stay over an expression's step; Z may become less -/
theorem StepE.mono {Z Z' : Addr → Prop} (hz : ∀ a, Z' a → Z a) : Mono m Z H m' Z' H' where
  tup := fun a xs h => s.keep _ _ h (.inr (.inl ⟨_, rfl⟩)) (fun _ q => by cases q)
  box := fun a ks hb h z n => ⟨s.rd h n (boxO_tbl hb), fun q => z (hz _ q), s.notm (rd_ne h) n⟩
  exa := fun a o ho h z n => ⟨s.keep _ _ h (.inl n) (exO_tbl ho), fun q => z (hz _ q), s.notm (by rw [h]; simp) n⟩
  frl := fun a o xs h => s.keep _ _ h (.inr (.inr (.inr (.inr ⟨_, _, rfl⟩)))) (fun _ q => by cases q)
  exc := fun a cls d h => s.keep _ _ h (.inr (.inr (.inl ⟨_, _, rfl⟩))) (fun _ q => by unfold ExcO at q; cases q)
  xd := fun a gs h => s.keep _ _ h (.inr (.inr (.inr (.inl ⟨_, rfl⟩)))) (fun _ q => by cases q)
  obj := fun n a h => by
    obtain ⟨ex, rfl, _⟩ := s.ms
    rw [List.getElem?_append_left (List.getElem?_eq_some_iff.mp h).1]
    exact h
variable {w : Wd} {Z : Addr → Prop}
theorem StepE.rep {d : D} {v : V} (h : Rep w m Z H d v) : Rep w m' Z H' d v := h.mono (s.mono fun _ q => q)
theorem StepE.reps {d : List D} {v : List V} (h : Reps w m Z H d v) : Reps w m' Z H' d v := h.mono (s.mono fun _ q => q)
theorem StepE.read {d : D} {v : V} (h : Read w m Z H d v) : Read w m' Z H' d v :=
  h.mono (s.mono fun _ q => q) (fun _ _ hb h n => ⟨s.rd h n (boxO_tbl hb), s.notm (rd_ne h) n⟩) fun _ _ ho h n => ⟨s.keep _ _ h (.inl n) (exO_tbl ho), s.notm (by rw [h]; simp) n⟩
theorem StepE.boxW {d : D} {a : Addr} (h : BoxW w m Z H d a) (n : a ∉ m) : BoxW w m' Z H' d a := by
  have M : Mono m Z H m' Z H' := s.mono fun _ q => q
  cases h with
  | lst h r => exact .lst (s.keep _ _ h (.inl n) (fun _ q => by cases q)) (r.mono M)
  | dk h r => exact .dk (s.keep _ _ h (.inl n) (fun _ q => by cases q)) (r.mono M)
  | dt h r => exact .dt (s.keep _ _ h (.inl n) (fun _ q => by cases q)) (r.mono M)
  | ins h r => exact .ins (s.keep _ _ h (.inl n) (fun _ q => by cases q)) (r.mono M)
end
/-- Z may grow by what isn't tracked -/
theorem mono_z {m : List Addr} {Z Z' : Addr → Prop} {H : Hp} (hz : ∀ a, Z' a → Z a ∨ H a = none) : Mono m Z H m Z' H where
  tup := fun _ _ h => h
  box := fun a u _ h z n => ⟨h, fun q => (hz a q).elim z (rd_ne h), n⟩
  exa := fun a o _ h z n => ⟨h, fun q => (hz a q).elim z (by rw [h]; simp), n⟩
  frl := fun _ _ _ h => h
  exc := fun _ _ _ h => h
  xd := fun _ _ h => h
  obj := fun _ _ h => h
end DL

set_option maxRecDepth 100000
namespace DL
open PySem L2

structure G where
  m : List Addr
  zo : List Addr
  zb : List Addr
  sl : Option Addr
def G.Z (g : G) : Addr → Prop := fun a => a ∈ g.zo ∨ a ∈ g.zb
abbrev G.at (g : G) (m : List Addr) : G := { g with m := m }

/-- lent: to be read, and no box of one's own -/
def Lent (w : Wd) (g : G) (H : Hp) (d : D) (v : V) : Prop := Rep w g.m g.Z H d v ∨ ∃ a, v = .ref a ∧ Box w g.m g.Z H d a ∧ a ∉ g.m ∧ a ∉ g.zo
theorem Lent.read {w : Wd} {g : G} {H : Hp} {d : D} {v : V} (h : Lent w g H d v) : Read w g.m g.Z H d v := h.imp id fun ⟨a, e, b, n, _⟩ => ⟨a, e, b, n⟩
def Held (w : Wd) (g : G) (H : Hp) (d : D) : Fl → V → Prop
  | .sh, v => Rep w g.m g.Z H d v
  | .bor, v => Lent w g H d v
  | .mine, _ => False
  | .own, v => ∃ a, v = .ref a ∧ BoxW w g.m g.Z H d a ∧ a ∈ g.zo ∧ a ∉ g.m
/-- the objects with names of their own -/
structure Stored (w : Wd) (m : List Addr) (Z : Addr → Prop) (H : Hp) (S : Store) : Prop where
  len : S.length = m.length
  at_ : ∀ (n : Nat) d, S[n]? = some d → ∃ a, m[n]? = some a ∧ BoxW w m Z H d a
structure Rel (w : Wd) (g : G) (ρ : Loc) (S : Store) (σ : St) (H : Hp) : Prop where
  len : σ.length = ρ.length
  loc : ∀ (i : Nat) d fl, ρ[i]? = some (some (d, fl)) → ∃ v, σ[i]? = some (some v) ∧ Held w g H d fl v
  inj : ∀ (i j : Nat) d e a, ρ[i]? = some (some (d, .own)) → ρ[j]? = some (some (e, .own)) → σ[i]? = some (some (.ref a)) → σ[j]? = some (some (.ref a)) → i = j
  sto : Stored w g.m g.Z H S
  nd : g.m.Nodup
  sep : ∀ b ∈ g.m, ¬ g.Z b
  sez : ∀ b ∈ g.zo, b ∉ g.zb
  trk : ∀ b, (b ∈ g.m ∨ g.Z b) → H b ≠ none
  slf : ∀ x d, g.sl = some x → ρ[0]? = some (some (d, .own)) → σ[0]? = some (some (.ref x))

/-- the answer of an expression; H: ahead of it -/
def Res (w : Wd) (g : G) (H : Hp) (r : RV) (S : Store) (v : V) (H' : Hp) : Prop :=
  match r.2 with
  | .sh => Rep w g.m g.Z H' r.1 v
  | .bor => Lent w g H' r.1 v
  | .mine => Read w g.m g.Z H' r.1 v
  | .own => ∃ a, v = .ref a ∧ H a = none ∧ a ∉ g.m ∧ ¬ g.Z a ∧ BoxW w g.m (fun b => g.Z b ∨ b = a) H' r.1 a ∧ Stored w g.m (fun b => g.Z b ∨ b = a) H' S
/-- what an argument is known by -/
def Arg (w : Wd) (m : List Addr) (Z : Addr → Prop) (H : Hp) (r : RV) (v : V) : Prop :=
  match r.2 with
  | .bor => Read w m Z H r.1 v
  | .mine => Read w m Z H r.1 v
  | _ => Rep w m Z H r.1 v
theorem BoxW.rep {w : Wd} {m : List Addr} {Z : Addr → Prop} {H : Hp} {d : D} {a : Addr} (h : BoxW w m Z H d a) (n : a ∉ m) (z : ¬ Z a) : Rep w m Z H d (.ref a) := .box h.box z n
theorem BoxW.less {w : Wd} {m : List Addr} {Z Z' : Addr → Prop} {H : Hp} {d : D} {a : Addr} (h : BoxW w m Z H d a) (hz : ∀ b, Z' b → Z b ∨ H b = none) : BoxW w m Z' H d a := by
  have M := mono_z (m := m) hz
  cases h with
  | lst h r => exact .lst h (r.mono M)
  | dk h r => exact .dk h (r.mono M)
  | dt h r => exact .dt h (r.mono M)
  | ins h r => exact .ins h (r.mono M)
theorem Stored.less {w : Wd} {m : List Addr} {Z Z' : Addr → Prop} {H : Hp} {S : Store} (h : Stored w m Z H S) (hz : ∀ b, Z' b → Z b ∨ H b = none) : Stored w m Z' H S :=
  ⟨h.len, fun n d e => let ⟨a, q, b⟩ := h.at_ n d e; ⟨a, q, b.less hz⟩⟩
theorem Res.arg {w : Wd} {g : G} {H H' : Hp} {r : RV} {S : Store} {v : V} (h : Res w g H r S v H') : Arg w g.m g.Z H' r v := by
  obtain ⟨d, fl⟩ := r
  cases fl with
  | sh => exact h
  | bor => exact Lent.read h
  | mine => exact h
  | own =>
    obtain ⟨a, rfl, _, n, z, b, _⟩ := h
    exact (b.less fun b q => .inl (.inl q)).rep n z
theorem Arg.read {w : Wd} {m : List Addr} {Z : Addr → Prop} {H : Hp} {r : RV} {v : V} (h : Arg w m Z H r v) : Read w m Z H r.1 v := by
  obtain ⟨d, fl⟩ := r
  cases fl with
  | sh => exact .inl h
  | bor => exact h
  | mine => exact h
  | own => exact .inl h
theorem StepE.arg {w : Wd} {m m' : List Addr} {H H' : Hp} (s : StepE m H m' H') {Z : Addr → Prop} {r : RV} {v : V} (h : Arg w m Z H r v) : Arg w m' Z H' r v := by
  obtain ⟨d, fl⟩ := r
  cases fl with
  | sh => exact s.rep h
  | bor => exact s.read h
  | mine => exact s.read h
  | own => exact s.rep h

def ROk (w : Wd) (g : G) (H : Hp) (ρ : Loc) (σ : St) (r : RV) (S : Store) (v : V) (H' : Hp) : Prop :=
  ∃ m', StepE g.m H m' H' ∧ Rel w (g.at m') ρ S σ H' ∧ Res w (g.at m') H r S v H'
/-- an exception in the air -/
def RepX (w : Wd) (m : List Addr) (Z : Addr → Prop) (H : Hp) (x : D) (cls : Value) (dd : Option Addr) : Prop :=
  ∃ c fs, x = .exc c fs ∧ cls = .ref (w.cl c) ∧ ((fs = [] ∧ dd = none) ∨ ∃ a gs, dd = some a ∧ H a = some (.xd gs) ∧ RepN w m Z H fs gs)
def XOk (w : Wd) (g : G) (H : Hp) (ρ : Loc) (σ : St) (x : D) (S : Store) (cls : Value) (dd : Option Addr) (H' : Hp) : Prop :=
  ∃ m', StepE g.m H m' H' ∧ Rel w (g.at m') ρ S σ H' ∧ RepX w m' g.Z H' x cls dd

abbrev SE := Loc → Store → R RV
abbrev ST := Loc → Store → R Bool
abbrev SA := Loc → Store → R (List RV)

inductive Args (w : Wd) (m : List Addr) (Z : Addr → Prop) (H : Hp) : List RV → List V → Prop where
  | nil : Args w m Z H [] []
  | cons {r : RV} {v : V} {rs : List RV} {vs : List V} : Arg w m Z H r v → Args w m Z H rs vs → Args w m Z H (r :: rs) (v :: vs)
theorem Args.step {w : Wd} {m m' : List Addr} {H H' : Hp} (s : StepE m H m' H') {Z : Addr → Prop} : ∀ {rs : List RV} {vs : List V}, Args w m Z H rs vs → Args w m' Z H' rs vs
  | _, _, .nil => .nil
  | _, _, .cons h r => .cons (s.arg h) (Args.step s r)
/-! ### the state stays over steps -/
theorem StepE.lent {w : Wd} {g : G} {m' : List Addr} {H H' : Hp} (s : StepE g.m H m' H') {d : D} {v : V} (h : Lent w g H d v) : Lent w (g.at m') H' d v := by
  rcases h with h | ⟨a, e, b, n, z⟩
  · exact .inl (s.rep h)
  · have M : Mono g.m g.Z H m' g.Z H' := s.mono fun _ q => q
    refine .inr ⟨a, e, ?_⟩
    cases b with
    | lst h r => exact ⟨.lst (s.keep _ _ h (.inl n) (fun _ q => by cases q)) (r.mono M), s.notm (by rw [h]; simp) n, z⟩
    | dk h r => exact ⟨.dk (s.rd h n (fun _ q => by cases q)) (r.mono M), s.notm (rd_ne h) n, z⟩
    | dt h r => exact ⟨.dt (s.rd h n (fun _ q => by cases q)) (r.mono M), s.notm (rd_ne h) n, z⟩
    | ins h r => exact ⟨.ins (s.keep _ _ h (.inl n) (fun _ q => by cases q)) (r.mono M), s.notm (by rw [h]; simp) n, z⟩
theorem Held.step {w : Wd} {g : G} {m' : List Addr} {H H' : Hp} (s : StepE g.m H m' H') {d : D} {fl : Fl} {v : V} (h : Held w g H d fl v) : Held w (g.at m') H' d fl v := by
  cases fl with
  | sh => exact s.rep h
  | bor => exact s.lent h
  | mine => exact h.elim
  | own =>
    obtain ⟨a, e, b, z, n⟩ := h
    exact ⟨a, e, s.boxW b n, z, s.notm (by cases b with | lst h _ => rw [h]; simp | dk h _ => rw [h]; simp | dt h _ => rw [h]; simp | ins h _ => rw [h]; simp) n⟩
/-- the state behind a step: what the objects hold is said anew -/
theorem Rel.step {w : Wd} {g : G} {ρ : Loc} {S S' : Store} {σ : St} {H H' : Hp} {m' : List Addr} (r : Rel w g ρ S σ H) (s : StepE g.m H m' H') (sto : Stored w m' g.Z H' S') (nd : m'.Nodup) (tr : ∀ b ∈ m', H' b ≠ none) : Rel w (g.at m') ρ S' σ H' where
  len := r.len
  loc := fun i d fl e => let ⟨v, q, h⟩ := r.loc i d fl e; ⟨v, q, h.step s⟩
  inj := r.inj
  sto := sto
  nd := nd
  sep := fun b hb z => by
    obtain ⟨ex, rfl, hx⟩ := s.ms
    rcases List.mem_append.mp hb with q | q
    · exact r.sep b q z
    · exact r.trk b (.inr z) (hx b q)
  sez := r.sez
  slf := r.slf
  trk := fun b h => by
    rcases h with h | h
    · exact tr b h
    · exact fun q => r.trk b (.inr h) (s.grow b q)
theorem Stored.step {w : Wd} {m : List Addr} {Z : Addr → Prop} {H H' : Hp} {S : Store} (h : Stored w m Z H S) (s : StepE m H m H') (hm : ∀ b ∈ m, H' b = H b) : Stored w m Z H' S :=
  ⟨h.len, fun n d e => by
    obtain ⟨a, q, b⟩ := h.at_ n d e
    have M : Mono m Z H m Z H' := s.mono fun _ z => z
    have ea := hm a (List.mem_of_getElem? q)
    refine ⟨a, q, ?_⟩
    cases b with
    | lst h r => exact .lst (ea.trans h) (r.mono M)
    | dk h r => exact .dk (ea.trans h) (r.mono M)
    | dt h r => exact .dt (ea.trans h) (r.mono M)
    | ins h r => exact .ins (ea.trans h) (r.mono M)⟩
/-- a new thing that has no name -/
theorem StepE.new {m : List Addr} {H : Hp} {p : Addr} {o : HO} (h : H p = none) : StepE m H m (upd H p o) where
  keep := fun b u e _ _ => by rw [upd_ne (ne_of_none e h)]; exact e
  grow := fun b e => by
    by_cases q : b = p
    · rw [q]; exact h
    · rw [upd_ne q] at e; exact e
  ms := ⟨[], by simp⟩
theorem Rel.new {w : Wd} {g : G} {ρ : Loc} {S : Store} {σ : St} {H : Hp} {p : Addr} {o : HO} (r : Rel w g ρ S σ H) (h : H p = none) : Rel w g ρ S σ (upd H p o) := by
  have s : StepE g.m H g.m (upd H p o) := .new h
  have hm : ∀ b ∈ g.m, upd H p o b = H b := fun b hb => upd_ne fun q => r.trk b (.inl hb) (by rw [q]; exact h)
  exact r.step s (r.sto.step s hm) r.nd fun b hb => by rw [hm b hb]; exact r.trk b (.inl hb)
theorem ROk.same {w : Wd} {g : G} {ρ : Loc} {S : Store} {σ : St} {H : Hp} {d : D} {v : V} (r : Rel w g ρ S σ H) (h : Rep w g.m g.Z H d v) : ROk w g H ρ σ (d, .sh) S v H := ⟨g.m, .refl _ _, r, h⟩
theorem ROk.tup {w : Wd} {g : G} {ρ : Loc} {S : Store} {σ : St} {H : Hp} {ds : List D} {vs : List V} {p : Addr} (r : Rel w g ρ S σ H) (h : Reps w g.m g.Z H ds vs) (hp : H p = none) :
    ROk w g H ρ σ (.tup ds, .sh) S (.ref p) (upd H p (.tup vs)) :=
  ⟨g.m, .new hp, r.new hp, .tup upd_same ((StepE.new hp).reps h)⟩
/-- a new box of one's own -/
theorem ROk.box {w : Wd} {g : G} {ρ : Loc} {S : Store} {σ : St} {H : Hp} {d : D} {o : HO} {p : Addr} (r : Rel w g ρ S σ H) (hp : H p = none) (h : BoxW w g.m (fun b => g.Z b ∨ b = p) (upd H p o) d p) :
    ROk w g H ρ σ (d, .own) S (.ref p) (upd H p o) := by
  have s : StepE g.m H g.m (upd H p o) := .new hp
  have hm : ∀ b ∈ g.m, upd H p o b = H b := fun b hb => upd_ne fun q => r.trk b (.inl hb) (by rw [q]; exact hp)
  refine ⟨g.m, s, r.new hp, p, rfl, hp, fun q => r.trk p (.inl q) hp, fun q => r.trk p (.inr q) hp, h, ?_⟩
  have s1 : Stored w g.m (fun b => g.Z b ∨ b = p) H S := r.sto.less fun b q => q.elim .inl fun q => .inr (by rw [q]; exact hp)
  exact s1.step s hm
theorem Reps.fresh {w : Wd} {m : List Addr} {Z : Addr → Prop} {H : Hp} {ds : List D} {vs : List V} {p : Addr} {o : HO} (h : Reps w m Z H ds vs) (hp : H p = none) : Reps w m (fun b => Z b ∨ b = p) (upd H p o) ds vs :=
  (h.mono (mono_z (Z' := fun b => Z b ∨ b = p) fun b q => q.elim .inl fun q => .inr (by rw [q]; exact hp))).mono ((StepE.new hp).mono fun _ q => q)
theorem ROk.lst {w : Wd} {g : G} {ρ : Loc} {S : Store} {σ : St} {H : Hp} {ds : List D} {vs : List V} {p : Addr} (r : Rel w g ρ S σ H) (h : Reps w g.m g.Z H ds vs) (hp : H p = none) :
    ROk w g H ρ σ (.lst ds, .own) S (.ref p) (upd H p (.lst vs)) := .box r hp (.lst upd_same (h.fresh hp))
theorem ROk.trans {w : Wd} {g : G} {ρ : Loc} {S : Store} {σ : St} {H H1 H' : Hp} {m1 : List Addr} {r : RV} {v : V} (s : StepE g.m H m1 H1) (h : ROk w (g.at m1) H1 ρ σ r S v H') : ROk w g H ρ σ r S v H' := by
  obtain ⟨m', s', rel, res⟩ := h
  refine ⟨m', s.trans s', rel, ?_⟩
  obtain ⟨d, fl⟩ := r
  cases fl with
  | sh => exact res
  | bor => exact res
  | mine => exact res
  | own =>
    obtain ⟨a, e, hn, rest⟩ := res
    exact ⟨a, e, s.grow a hn, rest⟩
theorem XOk.trans {w : Wd} {g : G} {ρ : Loc} {S : Store} {σ : St} {H H1 H' : Hp} {m1 : List Addr} {x : D} {cls : Value} {dd : Option Addr} (s : StepE g.m H m1 H1) (h : XOk w (g.at m1) H1 ρ σ x S cls dd H') : XOk w g H ρ σ x S cls dd H' := by
  obtain ⟨m', s', rel, res⟩ := h
  exact ⟨m', s.trans s', rel, res⟩
end DL

set_option maxRecDepth 100000
namespace DL
open PySem L2

/-! ### texts -/
theorem s2_inj {x y : String} (h : s2 x = s2 y) : x = y := by
  have h1 : (x.toList.map Char.toNat).toArray = (y.toList.map Char.toNat).toArray := by
    have := congrArg Str.cps h
    rw [show s2 x = _ from Str.ofString_eq_toList x, show s2 y = _ from Str.ofString_eq_toList y] at this
    exact this
  have h2 : x.toList.map Char.toNat = y.toList.map Char.toNat := by simpa using congrArg Array.toList h1
  have h3 : x.toList = y.toList := by
    refine (List.map_inj_right fun a b e => ?_).mp h2
    exact Char.ext (UInt32.toNat_inj.mp e)
  exact String.toList_inj.mp h3
theorem s2_eq (x y : String) : (s2 x = s2 y) = (x = y) := propext ⟨s2_inj, fun h => h ▸ rfl⟩
theorem s2_cps (x : String) : (s2 x).cps = (x.toList.map Char.toNat).toArray := by
  rw [show s2 x = _ from Str.ofString_eq_toList x]
theorem s2_len (x : String) : (s2 x).length = x.length := by
  show (s2 x).cps.size = _
  rw [s2_cps]; simp [String.length_toList]
theorem s2_app (x y : String) : s2 x ++ s2 y = s2 (x ++ y) := by
  show (⟨(s2 x).cps ++ (s2 y).cps⟩ : Str) = _
  rw [show s2 (x ++ y) = _ from Str.ofString_eq_toList _, s2_cps, s2_cps]
  simp

/-! ### what an expression comes to -/
def leakOk (r : RV) : Bool := !((r.2 == .bor || r.2 == .mine) && box r.1)
theorem Box.isBox {w : Wd} {m : List Addr} {Z : Addr → Prop} {H : Hp} {d : D} {a : Addr} (h : Box w m Z H d a) : box d = true := by
  cases h <;> rfl
theorem Read.rep {w : Wd} {m : List Addr} {Z : Addr → Prop} {H : Hp} {d : D} {v : V} (h : Read w m Z H d v) (n : box d = false) : Rep w m Z H d v := by
  rcases h with h | ⟨a, _, h, _⟩
  · exact h
  · rw [h.isBox] at n; cases n
theorem Arg.rep {w : Wd} {m : List Addr} {Z : Addr → Prop} {H : Hp} {r : RV} {v : V} (h : Arg w m Z H r v) (n : leakOk r = true) : Rep w m Z H r.1 v := by
  obtain ⟨d, fl⟩ := r
  cases fl with
  | sh => exact h
  | own => exact h
  | bor => exact Read.rep h (by simpa [leakOk] using n)
  | mine => exact Read.rep h (by simpa [leakOk] using n)
theorem Args.reps {w : Wd} {m : List Addr} {Z : Addr → Prop} {H : Hp} : ∀ {rs : List RV} {vs : List V}, Args w m Z H rs vs → rs.all leakOk = true → Reps w m Z H (rs.map (·.1)) vs
  | _, _, .nil, _ => .nil
  | _, _, .cons h t, n => by
    rw [List.all_cons, Bool.and_eq_true] at n
    exact .cons (h.rep n.1) (Args.reps t n.2)
theorem Args.length {w : Wd} {m : List Addr} {Z : Addr → Prop} {H : Hp} : ∀ {rs : List RV} {vs : List V}, Args w m Z H rs vs → rs.length = vs.length
  | _, _, .nil => rfl
  | _, _, .cons _ t => congrArg (· + 1) (Args.length t)
theorem Reps.length {w : Wd} {m : List Addr} {Z : Addr → Prop} {H : Hp} : ∀ {ds : List D} {vs : List V}, Reps w m Z H ds vs → ds.length = vs.length
  | _, _, .nil => rfl
  | _, _, .cons _ t => congrArg (· + 1) (Reps.length t)
theorem Reps.get {w : Wd} {m : List Addr} {Z : Addr → Prop} {H : Hp} : ∀ {ds : List D} {vs : List V} {i : Nat} {d : D}, Reps w m Z H ds vs → ds[i]? = some d → ∃ v, vs[i]? = some v ∧ Rep w m Z H d v
  | _, _, 0, _, .cons h _, e => by simp at e; subst e; exact ⟨_, rfl, h⟩
  | _, _, i + 1, d, .cons _ t, e => by
    obtain ⟨v, h1, h2⟩ := Reps.get (i := i) (d := d) t (by simpa using e)
    exact ⟨v, by simpa using h1, h2⟩
theorem Reps.app {w : Wd} {m : List Addr} {Z : Addr → Prop} {H : Hp} : ∀ {ds es : List D} {vs us : List V}, Reps w m Z H ds vs → Reps w m Z H es us → Reps w m Z H (ds ++ es) (vs ++ us)
  | _, _, _, _, .nil, s => s
  | _, _, _, _, .cons h t, s => .cons h (Reps.app t s)
theorem Reps.take {w : Wd} {m : List Addr} {Z : Addr → Prop} {H : Hp} : ∀ {ds : List D} {vs : List V} (n : Nat), Reps w m Z H ds vs → Reps w m Z H (ds.take n) (vs.take n)
  | _, _, 0, _ => .nil
  | _, _, _ + 1, .nil => .nil
  | _, _, n + 1, .cons h t => .cons h (Reps.take n t)
theorem Reps.drop {w : Wd} {m : List Addr} {Z : Addr → Prop} {H : Hp} : ∀ {ds : List D} {vs : List V} (n : Nat), Reps w m Z H ds vs → Reps w m Z H (ds.drop n) (vs.drop n)
  | _, _, 0, r => r
  | _, _, _ + 1, .nil => .nil
  | _, _, n + 1, .cons _ t => Reps.drop n t
theorem Reps.rep {w : Wd} {m : List Addr} {Z : Addr → Prop} {H : Hp} {ds : List D} {vs : List V} (h : Reps w m Z H ds vs) : ∀ n : Nat, Reps w m Z H (List.replicate n ds).flatten (List.replicate n vs).flatten
  | 0 => .nil
  | n + 1 => by
    rw [List.replicate_succ, List.replicate_succ, List.flatten_cons, List.flatten_cons]
    exact h.app (Reps.rep h n)
theorem Reps.snoc {w : Wd} {m : List Addr} {Z : Addr → Prop} {H : Hp} {ds : List D} {vs : List V} {d : D} {v : V} (h : Reps w m Z H ds vs) (r : Rep w m Z H d v) : Reps w m Z H (ds ++ [d]) (vs ++ [v]) := h.app (.cons r .nil)

/-! ### names, constants, displays -/
def sVar (i : Nat) : SE := fun ρ S => match ρ[i]? with
  | some (some (d, .own)) => .ok (d, .mine) S
  | some (some (d, .mine)) => .bad
  | some (some (d, fl)) => .ok (d, fl) S
  | _ => .bad
def sCst (d : D) : SE := fun _ S => .ok (d, .sh) S
def sNil : SA := fun _ S => .ok [] S
def sCons (f : SE) (fs : SA) : SA := fun ρ S => (f ρ S).bind fun r S1 => (fs ρ S1).bind fun rs S2 => .ok (r :: rs) S2
def sTup (fs : SA) : SE := fun ρ S => (fs ρ S).bind fun rs S1 => if rs.all leakOk = true ∧ rs.length ≤ sizeLine then .ok (.tup (rs.map (·.1)), .sh) S1 else .bad
def sLst (fs : SA) : SE := fun ρ S => (fs ρ S).bind fun rs S1 => if rs.all leakOk = true ∧ rs.length ≤ sizeLine then .ok (.lst (rs.map (·.1)), .own) S1 else .bad
/-- a test by a value that is True or False -/
def sT (f : SE) : ST := fun ρ S => (f ρ S).bind fun r S1 => match r.1 with
  | .bl b => .ok b S1
  | _ => .bad
def sIf (t : ST) (f g : SE) : SE := fun ρ S => (t ρ S).bind fun b S1 => if b = true then f ρ S1 else g ρ S1
def sAnd (f g : SE) : SE := fun ρ S => (f ρ S).bind fun r S1 => match r.1 with
  | .bl true => g ρ S1
  | .bl false => .ok (.bl false, .sh) S1
  | _ => .bad
def sOr (f g : SE) : SE := fun ρ S => (f ρ S).bind fun r S1 => match r.1 with
  | .bl true => .ok (.bl true, .sh) S1
  | .bl false => g ρ S1
  | _ => .bad
def sNot (f : SE) : SE := fun ρ S => (f ρ S).bind fun r S1 => match r.1 with
  | .bl b => .ok (.bl (!b), .sh) S1
  | _ => .bad
def tAndS (s t : ST) : ST := fun ρ S => (s ρ S).bind fun b S1 => if b = true then t ρ S1 else .ok false S1
def tOrS (s t : ST) : ST := fun ρ S => (s ρ S).bind fun b S1 => if b = true then .ok true S1 else t ρ S1
def tNotS (s : ST) : ST := fun ρ S => (s ρ S).bind fun b S1 => .ok (!b) S1

/-! ### posts -/
section
variable {w : Wd} {W : WX}
/-- what a post must allow: a step ahead, an exception, no bad end -/
structure Good (w : Wd) (W : WX) (ρ : Loc) (σ : St) {T : Type} (ex : D → Store → T) (bd : T) (P : G → Hp → T → Prop) : Prop where
  step : ∀ g H m1 H1 t, StepE g.m H m1 H1 → P g H t → P (g.at m1) H1 t
  exc : ∀ g H x S, P g H (ex x S) → ∀ cls dd H', XOk w g H ρ σ x S cls dd H' → W cls dd σ H'
  bad : ∀ g H, ¬ P g H bd
def PostE (w : Wd) (W : WX) (ρ : Loc) (σ : St) (Q : VK) (g : G) (H : Hp) (t : R RV) : Prop := match t with
  | .ok r S' => ∀ v H', ROk w g H ρ σ r S' v H' → Q v H'
  | .exc x S' => ∀ cls dd H', XOk w g H ρ σ x S' cls dd H' → W cls dd σ H'
  | .bad => False
def PostT (w : Wd) (W : WX) (ρ : Loc) (σ : St) (Q : Bool → Hp → Prop) (g : G) (H : Hp) (t : R Bool) : Prop := match t with
  | .ok b S' => ∀ H', (∃ m', StepE g.m H m' H' ∧ Rel w (g.at m') ρ S' σ H') → Q b H'
  | .exc x S' => ∀ cls dd H', XOk w g H ρ σ x S' cls dd H' → W cls dd σ H'
  | .bad => False
def PostA (w : Wd) (W : WX) (ρ : Loc) (σ : St) (Q : List V → Hp → Prop) (g : G) (H : Hp) (t : R (List RV)) : Prop := match t with
  | .ok rs S' => ∀ vs H', (∃ m', StepE g.m H m' H' ∧ Rel w (g.at m') ρ S' σ H' ∧ Args w m' g.Z H' rs vs) → Q vs H'
  | .exc x S' => ∀ cls dd H', XOk w g H ρ σ x S' cls dd H' → W cls dd σ H'
  | .bad => False
theorem goodE {ρ : Loc} {σ : St} {Q : VK} : Good w W ρ σ R.exc R.bad (PostE w W ρ σ Q) where
  step := fun g H m1 H1 t s p => by
    cases t with
    | ok r S => exact fun v H' q => p v H' (q.trans s)
    | exc x S => exact fun cls dd H' q => p cls dd H' (q.trans s)
    | bad => exact p
  exc := fun _ _ _ _ p => p
  bad := fun _ _ p => p
theorem goodT {ρ : Loc} {σ : St} {Q : Bool → Hp → Prop} : Good w W ρ σ R.exc R.bad (PostT w W ρ σ Q) where
  step := fun g H m1 H1 t s p => by
    cases t with
    | ok r S => exact fun H' ⟨m', a, b⟩ => p H' ⟨m', s.trans a, b⟩
    | exc x S => exact fun cls dd H' q => p cls dd H' (q.trans s)
    | bad => exact p
  exc := fun _ _ _ _ p => p
  bad := fun _ _ p => p
theorem goodA {ρ : Loc} {σ : St} {Q : List V → Hp → Prop} : Good w W ρ σ R.exc R.bad (PostA w W ρ σ Q) where
  step := fun g H m1 H1 t s p => by
    cases t with
    | ok r S => exact fun vs H' ⟨m', a, b⟩ => p vs H' ⟨m', s.trans a, b⟩
    | exc x S => exact fun cls dd H' q => p cls dd H' (q.trans s)
    | bad => exact p
  exc := fun _ _ _ _ p => p
  bad := fun _ _ p => p
def rdE (w : Wd) (W : WX) (f : SE) : TE := fun σ H Q => ∃ g ρ S, Rel w g ρ S σ H ∧ PostE w W ρ σ Q g H (f ρ S)
def rdT (w : Wd) (W : WX) (f : ST) : TT := fun σ H Q => ∃ g ρ S, Rel w g ρ S σ H ∧ PostT w W ρ σ Q g H (f ρ S)
def rdA (w : Wd) (W : WX) (f : SA) : TA := fun σ H Q => ∃ g ρ S, Rel w g ρ S σ H ∧ PostA w W ρ σ Q g H (f ρ S)

section
variable {ρ : Loc} {σ : St} {T : Type} {ex : D → Store → T} {bd : T} {P : G → Hp → T → Prop} {g : G} {S : Store} {H : Hp}
/-- an expression ahead of the rest -/
theorem bindE {f : SE} {k : RV → Store → T} (rel : Rel w g ρ S σ H) (h : P g H ((f ρ S).go ex bd k)) (gd : Good w W ρ σ ex bd P) :
    rdE w W f σ H fun v H1 => ∃ r S1 m1, StepE g.m H m1 H1 ∧ Rel w (g.at m1) ρ S1 σ H1 ∧ Res w (g.at m1) H r S1 v H1 ∧ f ρ S = .ok r S1 ∧ P (g.at m1) H1 (k r S1) := by
  refine ⟨g, ρ, S, rel, ?_⟩
  cases e : f ρ S with
  | ok r S1 =>
    rw [e] at h
    exact fun v H1 ⟨m1, s, r', res⟩ => ⟨r, S1, m1, s, r', res, rfl, gd.step _ _ _ _ _ s h⟩
  | exc x S1 => rw [e] at h; exact gd.exc _ _ _ _ h
  | bad => rw [e] at h; exact gd.bad _ _ h
/-- .. what was wanted ahead is at hand -/
theorem bindE0 {f : SE} {k : RV → Store → T} (rel : Rel w g ρ S σ H) (h : P g H ((f ρ S).go ex bd k)) (gd : Good w W ρ σ ex bd P) :
    rdE w W f σ H fun v H1 => ∃ r S1 m1, StepE g.m H m1 H1 ∧ Rel w (g.at m1) ρ S1 σ H1 ∧ Res w (g.at m1) H r S1 v H1 ∧ P g H (k r S1) := by
  refine ⟨g, ρ, S, rel, ?_⟩
  cases e : f ρ S with
  | ok r S1 =>
    rw [e] at h
    exact fun v H1 ⟨m1, s, r', res⟩ => ⟨r, S1, m1, s, r', res, h⟩
  | exc x S1 => rw [e] at h; exact gd.exc _ _ _ _ h
  | bad => rw [e] at h; exact gd.bad _ _ h
theorem bindT {f : ST} {k : Bool → Store → T} (rel : Rel w g ρ S σ H) (h : P g H ((f ρ S).go ex bd k)) (gd : Good w W ρ σ ex bd P) :
    rdT w W f σ H fun b H1 => ∃ S1 m1, StepE g.m H m1 H1 ∧ Rel w (g.at m1) ρ S1 σ H1 ∧ f ρ S = .ok b S1 ∧ P (g.at m1) H1 (k b S1) := by
  refine ⟨g, ρ, S, rel, ?_⟩
  cases e : f ρ S with
  | ok r S1 =>
    rw [e] at h
    exact fun H1 ⟨m1, s, r'⟩ => ⟨S1, m1, s, r', rfl, gd.step _ _ _ _ _ s h⟩
  | exc x S1 => rw [e] at h; exact gd.exc _ _ _ _ h
  | bad => rw [e] at h; exact gd.bad _ _ h
theorem bindA {f : SA} {k : List RV → Store → T} (rel : Rel w g ρ S σ H) (h : P g H ((f ρ S).go ex bd k)) (gd : Good w W ρ σ ex bd P) :
    rdA w W f σ H fun vs H1 => ∃ rs S1 m1, StepE g.m H m1 H1 ∧ Rel w (g.at m1) ρ S1 σ H1 ∧ Args w m1 g.Z H1 rs vs ∧ f ρ S = .ok rs S1 ∧ P (g.at m1) H1 (k rs S1) := by
  refine ⟨g, ρ, S, rel, ?_⟩
  cases e : f ρ S with
  | ok r S1 =>
    rw [e] at h
    exact fun vs H1 ⟨m1, s, r', a⟩ => ⟨r, S1, m1, s, r', a, rfl, gd.step _ _ _ _ _ s h⟩
  | exc x S1 => rw [e] at h; exact gd.exc _ _ _ _ h
  | bad => rw [e] at h; exact gd.bad _ _ h
end

theorem rdE_imp {f : SE} {σ : St} {H : Hp} {Q Q' : VK} (h : rdE w W f σ H Q) (i : ∀ v H', Q v H' → Q' v H') : rdE w W f σ H Q' := by
  obtain ⟨g, ρ, S, r, h⟩ := h
  refine ⟨g, ρ, S, r, ?_⟩
  cases e : f ρ S with
  | ok r S' => rw [e] at h; exact fun v H' q => i v H' (h v H' q)
  | exc x S' => rw [e] at h; exact h
  | bad => rw [e] at h; exact h

theorem PE.imp {X : Cx} {e : Expr} {t t' : TE} (h : PE X e t) (i : ∀ σ H Q, t' σ H Q → t σ H Q) : PE X e t' := ⟨fun pins s σ H Q I q => h.run pins s σ H Q I (i _ _ _ q)⟩
theorem PT.imp {X : Cx} {e : Expr} {t t' : TT} (h : PT X e t) (i : ∀ σ H Q, t' σ H Q → t σ H Q) : PT X e t' := ⟨fun pins s σ H Q I q => h.run pins s σ H Q I (i _ _ _ q)⟩
theorem PW.imp {X : Cx} {e : Expr} {t t' : TT} (h : PW X e t) (i : ∀ σ H Q, t' σ H Q → t σ H Q) : PW X e t' := ⟨fun wh pins s σ H Q I q => h.run wh pins s σ H Q I (i _ _ _ q)⟩
theorem PA.imp {X : Cx} {e : List Expr} {t t' : TA} (h : PA X e t) (i : ∀ σ H Q, t' σ H Q → t σ H Q) : PA X e t' := ⟨fun pos pins s σ H Q I q => h.run pos pins s σ H Q I (i _ _ _ q)⟩
theorem PS.imp {X : Cx} {e : Stmt} {t t' : TS} (h : PS X e t) (i : ∀ D σ H, t' D σ H → t D σ H) : PS X e t' := ⟨fun pins s σ H D I q => h.run pins s σ H D I (i _ _ _ q)⟩
theorem PSs.imp {X : Cx} {e : List Stmt} {t t' : TS} (h : PSs X e t) (i : ∀ D σ H, t' D σ H → t D σ H) : PSs X e t' := ⟨fun pins s σ H D I q => h.run pins s σ H D I (i _ _ _ q)⟩

variable {X : Cx}
/-- a name -/
theorem e_var (i : Nat) {x : Str} {pos : Pos} (hN : X.N[i]? = some x) (hv : Vis X.env.scope x) (hd : (x == ("__debug__" : Str)) = false) (hcd : (x == ("__classdict__" : Str)) = false) : PE X (.Name x pos) (rdE w W (sVar i)) := by
  refine PE.imp (pe_var hN hv hd hcd) fun σ H Q ⟨g, ρ, S, rel, h⟩ => ?_
  unfold sVar at h
  cases e : ρ[i]? with
  | none => rw [e] at h; exact h.elim
  | some o =>
    cases o with
    | none => rw [e] at h; exact h.elim
    | some r =>
      obtain ⟨d, fl⟩ := r
      obtain ⟨v, hv, held⟩ := rel.loc i d fl e
      refine ⟨v, hv, ?_⟩
      rw [e] at h
      cases fl with
      | sh => exact h v H (.same rel held)
      | bor => exact h v H ⟨g.m, .refl _ _, rel, held⟩
      | mine => exact h.elim
      | own =>
        obtain ⟨a, rfl, b, z, n⟩ := held
        exact h (.ref a) H ⟨g.m, .refl _ _, rel, .inr ⟨a, rfl, b.box, n⟩⟩
theorem e_cst {d : D} {v : V} {e : Expr} (h : PE X e (tC v)) (r : ∀ m Z H, Rep w m Z H d v) : PE X e (rdE w W (sCst d)) :=
  PE.imp h fun σ H Q ⟨g, ρ, S, rel, h⟩ => h v H (.same rel (r _ _ _))
theorem e_int {i j pos} : PE X (.Constant (.int i) j pos) (rdE w W (sCst (.int i))) := e_cst pe_int fun _ _ _ => .int i
theorem e_bl {b j pos} : PE X (.Constant (.bool b) j pos) (rdE w W (sCst (.bl b))) := e_cst pe_bl fun _ _ _ => .bl b
theorem e_non {j pos} : PE X (.Constant .none j pos) (rdE w W (sCst .non)) := e_cst pe_non fun _ _ _ => .non
theorem e_str {x : String} {j pos} : PE X (.Constant (.str (Str.ofString x)) j pos) (rdE w W (sCst (.str x))) := e_cst pe_str fun _ _ _ => .str x

theorem a_nil : PA X [] (rdA w W sNil) := PA.imp pa_nil fun σ H Q ⟨g, ρ, S, rel, h⟩ => h [] H ⟨g.m, .refl _ _, rel, .nil⟩
theorem rdA_imp {f : SA} {σ : St} {H : Hp} {Q Q' : List V → Hp → Prop} (h : rdA w W f σ H Q) (i : ∀ v H', Q v H' → Q' v H') : rdA w W f σ H Q' := by
  obtain ⟨g, ρ, S, r, h⟩ := h
  refine ⟨g, ρ, S, r, ?_⟩
  cases e : f ρ S with
  | ok r S' => rw [e] at h; exact fun v H' q => i v H' (h v H' q)
  | exc x S' => rw [e] at h; exact h
  | bad => rw [e] at h; exact h
theorem rdT_imp {f : ST} {σ : St} {H : Hp} {Q Q' : Bool → Hp → Prop} (h : rdT w W f σ H Q) (i : ∀ v H', Q v H' → Q' v H') : rdT w W f σ H Q' := by
  obtain ⟨g, ρ, S, r, h⟩ := h
  refine ⟨g, ρ, S, r, ?_⟩
  cases e : f ρ S with
  | ok r S' => rw [e] at h; exact fun H' q => i r H' (h H' q)
  | exc x S' => rw [e] at h; exact h
  | bad => rw [e] at h; exact h
theorem a_cons {e : Expr} {es : List Expr} {f : SE} {fs : SA} (hs : starEach (e :: es) X.env = (false, eval e X.env) :: starEach es X.env) (ha : PE X e (rdE w W f)) (hr : PA X es (rdA w W fs)) : PA X (e :: es) (rdA w W (sCons f fs)) := by
  refine PA.imp (pa_cons ha hr hs) fun σ H Q ⟨g, ρ, S, rel, h⟩ => ?_
  refine rdE_imp (bindE rel h goodA) fun v H1 ⟨r, S1, m1, s1, rel1, res1, _, h1⟩ => ?_
  refine rdA_imp (bindA rel1 h1 goodA) fun vs H2 ⟨rs, S3, m3, s3, rel3, as, _, h3⟩ => ?_
  exact h3 (v :: vs) H2 ⟨m3, .refl _ _, rel3, .cons (s3.arg res1.arg) as⟩
theorem e_tup {es : List Expr} {fs : SA} {k : Nat} {pos : Pos} (h : PA X es (rdA w W fs)) : PE X (.Tuple es k pos) (rdE w W (sTup fs)) := by
  refine PE.imp (pe_tup h) fun σ H Q ⟨g, ρ, S, rel, h⟩ => ?_
  refine rdA_imp (bindA rel h goodE) fun vs H1 ⟨rs, S1, m1, s1, rel1, as, _, h1⟩ => ?_
  split at h1
  · rename_i c
    exact ⟨by rw [← as.length]; exact c.2, fun p hp => h1 _ _ (ROk.tup rel1 (as.reps c.1) hp)⟩
  · exact h1.elim
theorem e_lst {es : List Expr} {fs : SA} {pos : Pos} (h : PA X es (rdA w W fs)) : PE X (.List es pos) (rdE w W (sLst fs)) := by
  refine PE.imp (pe_lst h) fun σ H Q ⟨g, ρ, S, rel, h⟩ => ?_
  refine rdA_imp (bindA rel h goodE) fun vs H1 ⟨rs, S1, m1, s1, rel1, as, _, h1⟩ => ?_
  split at h1
  · rename_i c
    exact ⟨by rw [← as.length]; exact c.2, fun p hp => h1 _ _ (ROk.lst rel1 (as.reps c.1) hp)⟩
  · exact h1.elim

/-! ### operators by values -/
/-- the contents of an object with a name of its own; else the value itself -/
def view (S : Store) : D → D
  | .obj n => S.getD n (.obj n)
  | d => d
/-- .. to be looked at, wherever the box stands -/
def Look (w : Wd) (m : List Addr) (Z : Addr → Prop) (H : Hp) (d : D) (v : V) : Prop := Rep w m Z H d v ∨ ∃ a, v = .ref a ∧ Box w m Z H d a
theorem Read.look {m : List Addr} {Z : Addr → Prop} {H : Hp} {d : D} {v : V} (h : Read w m Z H d v) : Look w m Z H d v := h.imp id fun ⟨a, e, b, _⟩ => ⟨a, e, b⟩
theorem look_view {g : G} {ρ : Loc} {S : Store} {σ : St} {H : Hp} {r : RV} {v : V} (rel : Rel w g ρ S σ H) (h : Arg w g.m g.Z H r v) : Look w g.m g.Z H (view S r.1) v := by
  have l := h.read.look
  obtain ⟨d, fl⟩ := r
  show Look w g.m g.Z H (view S d) v
  cases d with
  | obj n =>
    have e : ∃ a, v = .ref a ∧ g.m[n]? = some a := by
      rcases l with l | ⟨a, e, b⟩
      · cases l with
        | box b => cases b
        | obj hq => exact ⟨_, rfl, hq⟩
      · cases b
    obtain ⟨a, rfl, ha⟩ := e
    have hn : n < S.length := by rw [rel.sto.len]; exact (List.getElem?_eq_some_iff.mp ha).1
    obtain ⟨a', q, b⟩ := rel.sto.at_ n S[n] (by simp [hn])
    rw [ha] at q
    cases q
    refine .inr ⟨a, rfl, ?_⟩
    show Box w g.m g.Z H (S.getD n (.obj n)) a
    rw [List.getD_eq_getElem?_getD, List.getElem?_eq_getElem hn]
    exact b.box
  | _ => exact l
theorem Look.rep {m : List Addr} {Z : Addr → Prop} {H : Hp} {d : D} {v : V} (h : Look w m Z H d v) (n : box d = false) : Rep w m Z H d v := by
  rcases h with h | ⟨a, _, h⟩
  · exact h
  · rw [h.isBox] at n; cases n
theorem Look.int {m : List Addr} {Z : Addr → Prop} {H : Hp} {i : Int} {v : V} (h : Look w m Z H (.int i) v) : v = .int i := by
  cases h.rep rfl with
  | int => rfl
  | box b => cases b
theorem Look.str {m : List Addr} {Z : Addr → Prop} {H : Hp} {x : String} {v : V} (h : Look w m Z H (.str x) v) : v = .str (s2 x) := by
  cases h.rep rfl with
  | str => rfl
  | box b => cases b
theorem Look.bl {m : List Addr} {Z : Addr → Prop} {H : Hp} {b : Bool} {v : V} (h : Look w m Z H (.bl b) v) : v = .bl b := by
  cases h.rep rfl with
  | bl => rfl
  | box b => cases b
theorem Look.non {m : List Addr} {Z : Addr → Prop} {H : Hp} {v : V} (h : Look w m Z H .non v) : v = .non := by
  cases h.rep rfl with
  | non => rfl
  | box b => cases b
theorem KTup.sq {K : PySem.W.Frag} {H : Hp} {a : Addr} {xs : List V} (h : KTup K a xs) : SqT K H a xs := .inr h
theorem KLst.sq {K : PySem.W.Frag} {H : Hp} {a : Addr} {xs : List V} (h : KLst K a xs) : SqL K H a xs := .inr h
theorem Look.tup {m : List Addr} {Z : Addr → Prop} {H : Hp} {ds : List D} {v : V} (h : Look w m Z H (.tup ds) v) : ∃ a vs, v = .ref a ∧ SqT w.K H a vs ∧ Reps w m Z H ds vs := by
  cases h.rep rfl with
  | tup hq r => exact ⟨_, _, rfl, .of hq, r⟩
  | gtup hq r => exact ⟨_, _, rfl, hq.sq, r⟩
  | box b => cases b
theorem Look.lst {m : List Addr} {Z : Addr → Prop} {H : Hp} {ds : List D} {v : V} (h : Look w m Z H (.lst ds) v) : ∃ a vs, v = .ref a ∧ H a = some (.lst vs) ∧ Reps w m Z H ds vs := by
  rcases h with h | ⟨a, e, b⟩
  · cases h with
    | box b => cases b with | lst hq r => exact ⟨_, _, rfl, hq, r⟩
  · cases b with | lst hq r => exact ⟨_, _, e, hq, r⟩
theorem Look.frl {m : List Addr} {Z : Addr → Prop} {H : Hp} {ds : List D} {v : V} (h : Look w m Z H (.frl ds) v) : ∃ a vs, v = .ref a ∧ SqL w.K H a vs ∧ Reps w m Z H ds vs := by
  cases h.rep rfl with
  | frl hq r => exact ⟨_, _, rfl, .inl (.inr ⟨_, hq⟩), r⟩
  | gfrl hq r => exact ⟨_, _, rfl, hq.sq, r⟩
  | box b => cases b

/-- a value operation: the store stays; new things may come -/
def OkOp2 (w : Wd) (r : R2) (op : RV → RV → Store → Option RV) : Prop := ∀ (g : G) (ρ : Loc) (S : Store) (σ : St) (H : Hp) (a b : RV) (x y : V) (q : RV) (Q : VK), Rel w g ρ S σ H → Arg w g.m g.Z H a x → Arg w g.m g.Z H b y →
  op a b S = some q → (∀ v H', ROk w g H ρ σ q S v H' → Q v H') → r x y H Q
def OkOp1 (w : Wd) (r : V → Hp → VK → Prop) (op : RV → Store → Option RV) : Prop := ∀ (g : G) (ρ : Loc) (S : Store) (σ : St) (H : Hp) (a : RV) (x : V) (q : RV) (Q : VK), Rel w g ρ S σ H → Arg w g.m g.Z H a x →
  op a S = some q → (∀ v H', ROk w g H ρ σ q S v H' → Q v H') → r x H Q
def OkOpN (w : Wd) (r : List V → Hp → VK → Prop) (op : List RV → Store → Option RV) : Prop := ∀ (g : G) (ρ : Loc) (S : Store) (σ : St) (H : Hp) (as : List RV) (xs : List V) (q : RV) (Q : VK), Rel w g ρ S σ H → Args w g.m g.Z H as xs →
  op as S = some q → (∀ v H', ROk w g H ρ σ q S v H' → Q v H') → r xs H Q
def opt (o : Option RV) (S : Store) : R RV := match o with
  | some q => .ok q S
  | none => .bad
def sOp1 (op : RV → Store → Option RV) (f : SE) : SE := fun ρ S => (f ρ S).bind fun r S1 => opt (op r S1) S1
def sOp2 (op : RV → RV → Store → Option RV) (f g : SE) : SE := fun ρ S => (f ρ S).bind fun r S1 => (g ρ S1).bind fun q S2 => opt (op r q S2) S2
def sOpN (op : List RV → Store → Option RV) (fs : SA) : SE := fun ρ S => (fs ρ S).bind fun rs S1 => opt (op rs S1) S1
theorem post_opt {ρ : Loc} {σ : St} {Q : VK} {g : G} {H : Hp} {o : Option RV} {S : Store} (h : PostE w W ρ σ Q g H (opt o S)) : ∃ q, o = some q ∧ ∀ v H', ROk w g H ρ σ q S v H' → Q v H' := by
  cases o with
  | none => exact h.elim
  | some q => exact ⟨q, rfl, h⟩
theorem rd_op2 {r : R2} {op : RV → RV → Store → Option RV} (ok : OkOp2 w r op) {fa fb : SE} {σ : St} {H : Hp} {Q : VK} (h : rdE w W (sOp2 op fa fb) σ H Q) : tOp r (rdE w W fa) (rdE w W fb) σ H Q := by
  obtain ⟨g, ρ, S, rel, h⟩ := h
  refine rdE_imp (bindE rel h goodE) fun v H1 ⟨r1, S1, m1, s1, rel1, res1, _, h1⟩ => ?_
  refine rdE_imp (bindE rel1 h1 goodE) fun u H2 ⟨r2, S2, m2, s2, rel2, res2, _, h2⟩ => ?_
  obtain ⟨q, e, h3⟩ := post_opt h2
  exact ok (g.at m2) ρ S2 σ H2 r1 r2 v u q Q rel2 (s2.arg res1.arg) res2.arg e h3
theorem e_op2 {op : Operator} {r : R2} {f : RV → RV → Store → Option RV} (ok : OkOp2 w r f) (ho : OpR X (binaryOp op) r) {a b : Expr} {fa fb : SE} {pos : Pos} (ha : PE X a (rdE w W fa)) (hb : PE X b (rdE w W fb)) : PE X (.BinOp a op b pos) (rdE w W (sOp2 f fa fb)) :=
  PE.imp (pe_op ho ha hb) fun _ _ _ h => rd_op2 ok h
theorem e_cmp {op : CmpOp} {r : R2} {f : RV → RV → Store → Option RV} (ok : OkOp2 w r f) (ho : OpR X (compareOp op) r) {a b : Expr} {fa fb : SE} {pos : Pos} (hm : behindInMarks op b = false) (ha : PE X a (rdE w W fa)) (hb : PE X b (rdE w W fb)) : PE X (.Compare a [op] [b] pos) (rdE w W (sOp2 f fa fb)) :=
  PE.imp (pe_cmpR ho ha hb hm) fun _ _ _ h => rd_op2 ok h
theorem rdT_sT {f : SE} {σ : St} {H : Hp} {Q : Bool → Hp → Prop} (h : rdT w W (sT f) σ H Q) : rdE w W f σ H fun x H' => ∃ k, x = .bl k ∧ Q k H' := by
  obtain ⟨g, ρ, S, rel, h⟩ := h
  refine rdE_imp (bindE rel h goodT) fun v H1 ⟨r1, S1, m1, s1, rel1, res1, _, h1⟩ => ?_
  obtain ⟨d, fl⟩ := r1
  cases d with
  | bl b =>
    have l : Look w m1 g.Z H1 (.bl b) v := res1.arg.read.look
    exact ⟨b, l.bl, h1 H1 ⟨m1, .refl _ _, rel1⟩⟩
  | _ => exact h1.elim
theorem t_cmp {op : CmpOp} {r : R2} {f : RV → RV → Store → Option RV} (ok : OkOp2 w r f) (ho : OpR X (compareOp op) r) {a b : Expr} {fa fb : SE} {pos : Pos} (hm : behindInMarks op b = false) (ha : PE X a (rdE w W fa)) (hb : PE X b (rdE w W fb)) : PT X (.Compare a [op] [b] pos) (rdT w W (sT (sOp2 f fa fb))) :=
  PT.imp (pt_cmpR ho ha hb hm) fun _ _ _ h => rd_op2 ok (rdT_sT h)
/-- any other expression whose value is True or False -/
theorem t_val {e : Expr} {f : SE} (he : ∀ whole, isTrue e X.env whole = (do let v ← whole; standAt e.pos; holding [v] (truthy v))) (h : PE X e (rdE w W f)) : PT X e (rdT w W (sT f)) :=
  PT.imp (pt_val h he) fun _ _ _ h => rdT_sT h
end
end DL

set_option maxRecDepth 100000
/-! The value layer: data and its equality; operators. -/
namespace DL
open PySem L2

/-! ### plain data -/
mutual
def py : D → PyData
  | .bl b => .bool b
  | .int i => .int i
  | .str x => .str (s2 x)
  | .tup ds => .tuple (pys ds)
  | .lst ds => .list (pys ds)
  | _ => .none
def pys : List D → List PyData
  | [] => []
  | d :: ds => py d :: pys ds
end
mutual
def plain : D → Bool
  | .non => true
  | .bl _ => true
  | .int _ => true
  | .str _ => true
  | .tup ds => plains ds
  | .lst ds => plains ds
  | _ => false
def plains : List D → Bool
  | [] => true
  | d :: ds => plain d && plains ds
end
mutual
def dep : D → Nat
  | .tup ds => deps ds + 1
  | .lst ds => deps ds + 1
  | _ => 0
def deps : List D → Nat
  | [] => 0
  | d :: ds => max (dep d) (deps ds)
end
mutual
def deq : D → D → Bool
  | .non, .non => true
  | .bl a, .bl b => a == b
  | .bl a, .int j => (if a then 1 else 0) == j
  | .int i, .bl b => i == (if b then 1 else 0)
  | .int i, .int j => i == j
  | .str x, .str y => x == y
  | .tup xs, .tup ys => deqs xs ys
  | .lst xs, .lst ys => deqs xs ys
  | _, _ => false
def deqs : List D → List D → Bool
  | [], [] => true
  | x :: xs, y :: ys => deq x y && deqs xs ys
  | _, _ => false
end
theorem pys_map : ∀ ds : List D, pys ds = ds.map py
  | [] => rfl
  | _ :: ds => congrArg _ (pys_map ds)
theorem plains_all : ∀ ds : List D, plains ds = ds.all plain
  | [] => rfl
  | d :: ds => by rw [plains, List.all_cons, plains_all ds]
theorem s2_ok (x : String) : PyData.strOk (s2 x) = true := by
  unfold PyData.strOk
  rw [s2_cps]
  simp only [List.all_toArray, List.all_map, List.all_eq_true, Function.comp, decide_eq_true_eq]
  intro c _
  have := c.valid
  rcases this with h | h
  · exact Nat.lt_trans (show c.val.toNat < 0xd800 from h) (by decide)
  · exact h.2
mutual
theorem py_lay : ∀ d : D, (py d).canLay0 = true
  | .non => rfl
  | .bl _ => rfl
  | .int _ => rfl
  | .str x => by simp only [py, PyData.canLay0]; exact s2_ok x
  | .tup ds => by simp only [py, PyData.canLay0]; exact pys_lay ds
  | .lst ds => by simp only [py, PyData.canLay0]; exact pys_lay ds
  | .dk _ => rfl
  | .dt _ => rfl
  | .ins _ _ => rfl
  | .exc _ _ => rfl
  | .obj _ => rfl
  | .frl _ => rfl
theorem pys_lay : ∀ ds : List D, PyData.canLayAll0 (pys ds) = true
  | [] => rfl
  | d :: ds => by simp only [pys, PyData.canLayAll0, py_lay d, pys_lay ds, Bool.and_self]
end
mutual
theorem py_dep : ∀ d : D, (py d).depth = dep d
  | .non => rfl
  | .bl _ => rfl
  | .int _ => rfl
  | .str x => rfl
  | .tup ds => by simp only [py, PyData.depth, dep, pys_dep ds]
  | .lst ds => by simp only [py, PyData.depth, dep, pys_dep ds]
  | .dk _ => rfl
  | .dt _ => rfl
  | .ins _ _ => rfl
  | .exc _ _ => rfl
  | .obj _ => rfl
  | .frl _ => rfl
theorem pys_dep : ∀ ds : List D, PyData.depthAll (pys ds) = deps ds
  | [] => rfl
  | d :: ds => by simp only [pys, PyData.depthAll, deps, py_dep d, pys_dep ds]
end
theorem s2_beq (x y : String) : (s2 x == s2 y) = (x == y) := by
  by_cases h : x = y
  · subst h; simp
  · rw [beq_eq_false_iff_ne.mpr h, beq_eq_false_iff_ne.mpr fun q => h (s2_inj q)]
mutual
theorem py_eqv : ∀ d e : D, plain d = true → plain e = true → PyData.eqv (py d) (py e) = deq d e
  | .non, e, _, h => by cases e <;> first | rfl | cases h
  | .bl b, e, _, h => by cases e <;> first | rfl | cases h
  | .int i, e, _, h => by cases e <;> first | rfl | cases h
  | .str x, e, _, h => by cases e <;> first | rfl | (simp only [py, PyData.eqv, deq]; exact s2_beq _ _) | cases h
  | .tup ds, e, g, h => by
    cases e <;> first | rfl | cases h | skip
    rename_i es
    simp only [py, PyData.eqv, deq]
    exact pys_eqv ds es (by simpa [plain] using g) (by simpa [plain] using h)
  | .lst ds, e, g, h => by
    cases e <;> first | rfl | cases h | skip
    rename_i es
    simp only [py, PyData.eqv, deq]
    exact pys_eqv ds es (by simpa [plain] using g) (by simpa [plain] using h)
  | .dk _, _, g, _ => by cases g
  | .dt _, _, g, _ => by cases g
  | .ins _ _, _, g, _ => by cases g
  | .exc _ _, _, g, _ => by cases g
  | .obj _, _, g, _ => by cases g
  | .frl _, _, g, _ => by cases g
theorem pys_eqv : ∀ ds es : List D, plains ds = true → plains es = true → PyData.eqvAll (pys ds) (pys es) = deqs ds es
  | [], [], _, _ => rfl
  | [], _ :: _, _, _ => rfl
  | _ :: _, [], _, _ => rfl
  | d :: ds, e :: es, g, h => by
    rw [plains, Bool.and_eq_true] at g h
    simp only [pys, PyData.eqvAll, deqs, py_eqv d e g.1 h.1, pys_eqv ds es g.2 h.2]
end
mutual
theorem deq_refl : ∀ d : D, plain d = true → deq d d = true
  | .non, _ => rfl
  | .bl b, _ => by simp [deq]
  | .int i, _ => by simp [deq]
  | .str x, _ => by simp [deq]
  | .tup ds, h => by rw [deq]; exact deqs_refl ds (by simpa [plain] using h)
  | .lst ds, h => by rw [deq]; exact deqs_refl ds (by simpa [plain] using h)
  | .dk _, g => by cases g
  | .dt _, g => by cases g
  | .ins _ _, g => by cases g
  | .exc _ _, g => by cases g
  | .obj _, g => by cases g
  | .frl _, g => by cases g
theorem deqs_refl : ∀ ds : List D, plains ds = true → deqs ds ds = true
  | [], _ => rfl
  | d :: ds, h => by
    rw [plains, Bool.and_eq_true] at h
    rw [deqs, deq_refl d h.1, deqs_refl ds h.2]; rfl
end
section
variable {w : Wd} {m : List Addr} {Z : Addr → Prop} {H : Hp}
mutual
theorem Rep.dp : ∀ {d : D} {v : V}, Rep w m Z H d v → plain d = true → Dp w.K H v (py d)
  | _, _, .non, _ => .non
  | _, _, .bl b, _ => .bl b
  | _, _, .int i, _ => .int i
  | _, _, .str x, _ => .str _
  | _, _, .tup h r, p => .tup (.of h) (Reps.dp r (by simpa [plain] using p))
  | _, _, .gtup h r, p => .tup h.sq (Reps.dp r (by simpa [plain] using p))
  | _, _, .frl _ _, p => by cases p
  | _, _, .gfrl _ _, p => by cases p
  | _, _, .box (.lst h r) _ _, p => .lst (.of h) (Reps.dp r (by simpa [plain] using p))
  | _, _, .box (.dk _ _) _ _, p => by cases p
  | _, _, .box (.dt _ _) _ _, p => by cases p
  | _, _, .box (.ins _ _) _ _, p => by cases p
  | _, _, .obj _, p => by cases p
  | _, _, .exc0 _, p => by cases p
  | _, _, .excF _ _ _, p => by cases p
theorem Reps.dp : ∀ {ds : List D} {vs : List V}, Reps w m Z H ds vs → plains ds = true → DpAll w.K H vs (pys ds)
  | _, _, .nil, _ => .nil
  | _, _, .cons h r, p => by
    rw [plains, Bool.and_eq_true] at p
    exact .cons (h.dp p.1) (Reps.dp r p.2)
end
theorem Look.dp {d : D} {v : V} (h : Look w m Z H d v) (p : plain d = true) : Dp w.K H v (py d) := by
  rcases h with h | ⟨a, rfl, b⟩
  · exact h.dp p
  · cases b with
    | lst h r => exact .lst (.of h) (r.dp (by simpa [plain] using p))
    | dk _ _ => cases p
    | dt _ _ => cases p
    | ins _ _ => cases p
end

/-! ### the context's room -/
structure CxR (X : Cx) : Prop where
  un : X.A.units + 200 < cLine
  calm : X.calm = true

theorem OpR.or {X : Cx} {f : Value → Value → Sem Value} {r r' : R2} (h : OpR X f r) (h' : OpR X f r') : OpR X f (fun x y H Q => r x y H Q ∨ r' x y H Q) :=
  fun pins s σ H x y v u Q I rx ry q => q.elim (h pins s σ H x y v u Q I rx ry) (h' pins s σ H x y v u Q I rx ry)

/-! ### equality, in -/
def rEqP (K : PySem.W.Frag) : R2 := fun x y H Q => ∃ d e, Dp K H x d ∧ Dp K H y e ∧ d.canLay0 = true ∧ e.canLay0 = true ∧ d.depth ≤ 190 ∧ Q (.bl (PyData.eqv d e)) H
def rNeP (K : PySem.W.Frag) : R2 := fun x y H Q => ∃ d e, Dp K H x d ∧ Dp K H y e ∧ d.canLay0 = true ∧ e.canLay0 = true ∧ d.depth ≤ 190 ∧ Q (.bl (!PyData.eqv d e)) H
theorem op_eqP {X : Cx} (c : CxR X) : OpR X (compareOp .Eq) (rEqP X.K) := by
  intro pins s σ H x y v u Q I rx ry ⟨d, e, hd, he, ld, le, dd, q⟩
  obtain ⟨as, r1⟩ := Dp.reads I d x v hd rx
  obtain ⟨bs, r2⟩ := Dp.reads I e y u he ry
  exact SeqAt.compareEq_reads r1 r2 ld le (by have := c.un; have : min d.depth e.depth ≤ d.depth := Nat.min_le_left _ _; omega) ⟨.bl _, H, I, rfl, q⟩
theorem op_neP {X : Cx} (c : CxR X) : OpR X (compareOp .NotEq) (rNeP X.K) := by
  intro pins s σ H x y v u Q I rx ry ⟨d, e, hd, he, ld, le, dd, q⟩
  obtain ⟨as, r1⟩ := Dp.reads I d x v hd rx
  obtain ⟨bs, r2⟩ := Dp.reads I e y u he ry
  exact SeqAt.compareNe_reads r1 r2 ld le (by have := c.un; have : min d.depth e.depth ≤ d.depth := Nat.min_le_left _ _; omega) ⟨.bl _, H, I, rfl, q⟩
def oEq (a b : RV) (S : Store) : Option RV := if plain (view S a.1) = true ∧ plain (view S b.1) = true ∧ dep (view S a.1) ≤ 190 then some (.bl (deq (view S a.1) (view S b.1)), .sh) else none
def oNe (a b : RV) (S : Store) : Option RV := if plain (view S a.1) = true ∧ plain (view S b.1) = true ∧ dep (view S a.1) ≤ 190 then some (.bl (!deq (view S a.1) (view S b.1)), .sh) else none
theorem ok_eq {w : Wd} : OkOp2 w (rEqP w.K) oEq := by
  intro g ρ S σ H a b x y q Q rel ha hb e h
  unfold oEq at e
  split at e
  · rename_i c
    cases e
    refine ⟨_, _, (look_view rel ha).dp c.1, (look_view rel hb).dp c.2.1, py_lay _, py_lay _, by rw [py_dep]; exact c.2.2, ?_⟩
    rw [py_eqv _ _ c.1 c.2.1]
    exact h _ _ (.same rel (.bl _))
  · cases e
theorem ok_ne {w : Wd} : OkOp2 w (rNeP w.K) oNe := by
  intro g ρ S σ H a b x y q Q rel ha hb e h
  unfold oNe at e
  split at e
  · rename_i c
    cases e
    refine ⟨_, _, (look_view rel ha).dp c.1, (look_view rel hb).dp c.2.1, py_lay _, py_lay _, by rw [py_dep]; exact c.2.2, ?_⟩
    rw [py_eqv _ _ c.1 c.2.1]
    exact h _ _ (.same rel (.bl _))
  · cases e
end DL

set_option maxRecDepth 100000
/-! The value layer: arithmetic, order, in, is. -/
namespace DL
open PySem L2

section
variable {X : Cx} {w : Wd}
theorem Arg.lk {g : G} {ρ : Loc} {S : Store} {σ : St} {H : Hp} {r : RV} {v : V} (h : Arg w g.m g.Z H r v) (rel : Rel w g ρ S σ H) {d : D} (e : view S r.1 = d) : Look w g.m g.Z H d v := e ▸ look_view rel h
/-! ### + - * // % ** -/
def rAddA (K : PySem.W.Frag) : R2 := fun x y H Q => rI0 (fun i j => .int (i + j)) x y H Q ∨ (∃ i j, x = .str i ∧ y = .str j ∧ i.length + j.length ≤ sizeLine ∧ Q (.str (i ++ j)) H) ∨ rCatA K x y H Q ∨ rCat x y H Q
theorem op_addA : OpR X (binaryOp .Add) (rAddA X.K) := op_add.or (op_add_str.or (op_catA.or op_cat))
def oAdd (a b : RV) (S : Store) : Option RV := match view S a.1, view S b.1 with
  | .int i, .int j => some (.int (i + j), .sh)
  | .str x, .str y => if x.length + y.length ≤ sizeLine then some (.str (x ++ y), .sh) else none
  | .tup xs, .tup ys => if xs.length + ys.length ≤ sizeLine then some (.tup (xs ++ ys), .sh) else none
  | .lst xs, .lst ys => if xs.length + ys.length ≤ sizeLine then some (.lst (xs ++ ys), .own) else none
  | _, _ => none
theorem ok_add : OkOp2 w (rAddA w.K) oAdd := by
  intro g ρ S σ H a b x y q Q rel ha hb e h
  unfold oAdd at e
  split at e
  · rename_i i j ea eb
    cases e
    exact .inl ⟨i, j, (ha.lk rel ea).int, (hb.lk rel eb).int, h _ _ (.same rel (.int _))⟩
  · rename_i i j ea eb
    split at e
    · rename_i c
      cases e
      refine .inr (.inl ⟨_, _, (ha.lk rel ea).str, (hb.lk rel eb).str, by rw [s2_len, s2_len]; exact c, ?_⟩)
      rw [s2_app]
      exact h _ _ (.same rel (.str _))
    · cases e
  · rename_i i j ea eb
    split at e
    · rename_i c
      cases e
      obtain ⟨p, vs, rfl, hp, rp⟩ := (ha.lk rel ea).tup
      obtain ⟨q, us, rfl, hq, rq⟩ := (hb.lk rel eb).tup
      refine .inr (.inr (.inl ⟨p, q, vs, us, rfl, rfl, hp, hq, by rw [← rp.length, ← rq.length]; exact c, fun e1 => ?_, fun e1 e2 => ?_, fun e1 e2 t ht => ?_⟩))
      · subst e1
        cases rp
        exact h _ _ (.same rel ((hb.lk rel eb).rep rfl))
      · subst e2
        cases rq
        rw [List.append_nil] at h
        exact h _ _ (.same rel ((ha.lk rel ea).rep rfl))
      · exact h _ _ (.tup rel (rp.app rq) ht)
    · cases e
  · rename_i i j ea eb
    split at e
    · rename_i c
      cases e
      obtain ⟨p, vs, rfl, hp, rp⟩ := (ha.lk rel ea).lst
      obtain ⟨q, us, rfl, hq, rq⟩ := (hb.lk rel eb).lst
      refine .inr (.inr (.inr ⟨p, q, vs, us, rfl, rfl, hp, hq, by rw [← rp.length, ← rq.length]; exact c, fun t ht => ?_⟩))
      exact h _ _ (.lst rel (rp.app rq) ht)
    · cases e
  · cases e
/-- two whole numbers -/
def oII (C : Int → Int → Prop) [∀ i j, Decidable (C i j)] (f : Int → Int → Int) (a b : RV) (S : Store) : Option RV := match view S a.1, view S b.1 with
  | .int i, .int j => if C i j then some (.int (f i j), .sh) else none
  | _, _ => none
theorem ok_II {C : Int → Int → Prop} [∀ i j, Decidable (C i j)] {f : Int → Int → Int} : OkOp2 w (rI C fun i j => .int (f i j)) (oII C f) := by
  intro g ρ S σ H a b x y q Q rel ha hb e h
  unfold oII at e
  split at e
  · rename_i i j ea eb
    split at e
    · rename_i c
      cases e
      exact ⟨i, j, (ha.lk rel ea).int, (hb.lk rel eb).int, c, h _ _ (.same rel (.int _))⟩
    · cases e
  · cases e
abbrev CSub (_ _ : Int) : Prop := True
theorem op_subC : OpR X (binaryOp .Sub) (rI CSub fun i j => .int (i - j)) := opI fun _ _ _ _ _ _ _ _ q => PyProof.Rows.sub_int q
abbrev CFdv (_ j : Int) : Prop := 0 < j ∧ j.natAbs.log2 < 9000
theorem op_fdivC : OpR X (binaryOp .FloorDiv) (rI CFdv fun i j => .int (i / j)) := op_fdivW
abbrev CMd (_ j : Int) : Prop := 0 < j
theorem op_modC : OpR X (binaryOp .Mod) (rI CMd fun i j => .int (i % j)) := op_mod
abbrev CPw (i j : Int) : Prop := 0 ≤ j ∧ (Builtin.Int.intBits i : Int) * j ≤ 2 ^ 27
theorem op_powC : OpR X (binaryOp .Pow) (rI CPw fun i j => .int (i ^ j.toNat)) := opI fun _ _ _ _ _ _ _ hc q => PyProof.Rows.pow_int hc.1 hc.2 q
abbrev CMu (i j : Int) : Prop := i.natAbs.log2 + j.natAbs.log2 < 1000000
abbrev oSub := oII CSub (· - ·)
abbrev oFdiv := oII CFdv (· / ·)
abbrev oMod := oII CMd (· % ·)
abbrev oPow := oII CPw (fun i j => i ^ j.toNat)
/-- numbers; a list so many times; a tuple so many times -/
def rRepA (K : PySem.W.Frag) : R2 := fun x y H Q => ∃ l k xs, x = .ref l ∧ y = .int k ∧ SqT K H l xs ∧ 0 ≤ k ∧ k ≤ 100000 ∧ xs.length * k.toNat ≤ 1000000 ∧ ((k = 1 ∨ xs = []) → Q (.ref l) H) ∧
  (k ≠ 1 → xs ≠ [] → ∀ p, H p = none → Q (.ref p) (upd H p (.tup (List.replicate k.toNat xs).flatten)))
def oMul (a b : RV) (S : Store) : Option RV := match view S a.1, view S b.1 with
  | .int i, .int j => if CMu i j then some (.int (i * j), .sh) else none
  | .lst xs, .int k => if -(2 ^ 63) ≤ k ∧ k < 2 ^ 63 ∧ xs.length * k.toNat ≤ sizeLine then some (.lst (List.replicate k.toNat xs).flatten, .own) else none
  | .tup xs, .int k => if 0 ≤ k ∧ k ≤ 100000 ∧ xs.length * k.toNat ≤ 1000000 then some (.tup (List.replicate k.toNat xs).flatten, .sh) else none
  | _, _ => none
def rMulA (K : PySem.W.Frag) : R2 := fun x y H Q => rI CMu (fun i j => .int (i * j)) x y H Q ∨ rRep x y H Q ∨ rRepA K x y H Q
theorem flat_one {α : Type} (xs : List α) : (List.replicate 1 xs).flatten = xs := by simp
theorem flat_nil {α : Type} (n : Nat) : (List.replicate n ([] : List α)).flatten = [] := by simp
theorem ok_mul : OkOp2 w (rMulA w.K) oMul := by
  intro g ρ S σ H a b x y q Q rel ha hb e h
  unfold oMul at e
  split at e
  · rename_i i j ea eb
    split at e
    · rename_i c
      cases e
      exact .inl ⟨i, j, (ha.lk rel ea).int, (hb.lk rel eb).int, c, h _ _ (.same rel (.int _))⟩
    · cases e
  · rename_i xs k ea eb
    split at e
    · rename_i c
      cases e
      obtain ⟨p, vs, rfl, hp, rp⟩ := (ha.lk rel ea).lst
      refine .inr (.inl ⟨p, k, vs, rfl, (hb.lk rel eb).int, hp, c.1, c.2.1, by rw [← rp.length]; exact c.2.2, fun t ht => ?_⟩)
      exact h _ _ (.lst rel (rp.rep _) ht)
    · cases e
  · rename_i xs k ea eb
    split at e
    · rename_i c
      cases e
      obtain ⟨p, vs, rfl, hp, rp⟩ := (ha.lk rel ea).tup
      refine .inr (.inr ⟨p, k, vs, rfl, (hb.lk rel eb).int, hp, c.1, c.2.1, by rw [← rp.length]; exact c.2.2, fun h1 => ?_, fun h1 h2 t ht => ?_⟩)
      · have e2 : (List.replicate k.toNat xs).flatten = xs := by
          rcases h1 with rfl | rfl
          · exact flat_one xs
          · cases rp; exact flat_nil _
        rw [e2] at h
        exact h _ _ (.same rel ((ha.lk rel ea).rep rfl))
      · exact h _ _ (.tup rel (rp.rep _) ht)
    · cases e
  · cases e
theorem un_negI : UnR X (unaryOp .USub) (rU fun i => .int (-i)) := un_neg
def oNeg (a : RV) (S : Store) : Option RV := match view S a.1 with
  | .int i => some (.int (-i), .sh)
  | _ => none
theorem ok_neg : OkOp1 w (rU fun i => .int (-i)) oNeg := by
  intro g ρ S σ H a x q Q rel ha e h
  unfold oNeg at e
  split at e
  · rename_i i ea
    cases e
    exact ⟨i, (ha.lk rel ea).int, h _ _ (.same rel (.int _))⟩
  · cases e
theorem rd_op1 {W : WX} {r : V → Hp → VK → Prop} {op : RV → Store → Option RV} (ok : OkOp1 w r op) {fa : SE} {σ : St} {H : Hp} {Q : VK} (h : rdE w W (sOp1 op fa) σ H Q) : tUn r (rdE w W fa) σ H Q := by
  obtain ⟨g, ρ, S, rel, h⟩ := h
  refine rdE_imp (bindE rel h goodE) fun v H1 ⟨r1, S1, m1, s1, rel1, res1, _, h1⟩ => ?_
  obtain ⟨q, e, h3⟩ := post_opt h1
  exact ok (g.at m1) ρ S1 σ H1 r1 v q Q rel1 res1.arg e h3
theorem e_un {W : WX} {op : UnaryOp} {r : V → Hp → VK → Prop} {f : RV → Store → Option RV} (ok : OkOp1 w r f) (ho : UnR X (unaryOp op) r) {a : Expr} {fa : SE} {pos : Pos} (ha : PE X a (rdE w W fa)) : PE X (.UnaryOp op a pos) (rdE w W (sOp1 f fa)) :=
  PE.imp (pe_un ho ha) fun _ _ _ h => rd_op1 ok h

/-! ### < <= > >= -/
/-- texts by their signs -/
def strLt (x y : String) : Bool := decide (x.toList.map Char.toNat < y.toList.map Char.toNat)
def oCmp (f : Int → Int → Bool) (a b : RV) (S : Store) : Option RV := match view S a.1, view S b.1 with
  | .int i, .int j => some (.bl (f i j), .sh)
  | _, _ => none
theorem ok_cmp {f : Int → Int → Bool} : OkOp2 w (rI0 fun i j => .bl (f i j)) (oCmp f) := by
  intro g ρ S σ H a b x y q Q rel ha hb e h
  unfold oCmp at e
  split at e
  · rename_i i j ea eb
    cases e
    exact ⟨i, j, (ha.lk rel ea).int, (hb.lk rel eb).int, h _ _ (.same rel (.bl _))⟩
  · cases e
abbrev oLe := oCmp fun i j => decide (i ≤ j)
abbrev oGt := oCmp fun i j => decide (j < i)
abbrev oGe := oCmp fun i j => decide (j ≤ i)
def oLt (a b : RV) (S : Store) : Option RV := match view S a.1, view S b.1 with
  | .int i, .int j => some (.bl (decide (i < j)), .sh)
  | .str x, .str y => some (.bl (strLt x y), .sh)
  | _, _ => none
def rLtA : R2 := fun x y H Q => rI0 (fun i j => .bl (decide (i < j))) x y H Q ∨ ∃ i j, x = .str i ∧ y = .str j ∧ Q (.bl (decide (i.cps.toList < j.cps.toList))) H
theorem op_ltA : OpR X (compareOp .Lt) rLtA := op_lt.or op_lt_str
theorem ok_lt : OkOp2 w rLtA oLt := by
  intro g ρ S σ H a b x y q Q rel ha hb e h
  unfold oLt at e
  split at e
  · rename_i i j ea eb
    cases e
    exact .inl ⟨i, j, (ha.lk rel ea).int, (hb.lk rel eb).int, h _ _ (.same rel (.bl _))⟩
  · rename_i i j ea eb
    cases e
    refine .inr ⟨_, _, (ha.lk rel ea).str, (hb.lk rel eb).str, ?_⟩
    have := h _ _ (.same rel (.bl _))
    unfold strLt at this
    rw [s2_cps, s2_cps]
    exact this
  · cases e

/-! ### is None -/
def isNonD : D → Bool
  | .non => true
  | _ => false
theorem rep_non {m : List Addr} {Z : Addr → Prop} {H : Hp} {d : D} {v : V} (h : Read w m Z H d v) : decide (v = .non) = isNonD d := by
  rcases h with h | ⟨a, rfl, b⟩
  · cases h <;> first | rfl | skip
    rename_i b
    cases b <;> rfl
  · cases b.1 <;> rfl
def oIsN (a b : RV) (_ : Store) : Option RV := match b.1 with
  | .non => some (.bl (isNonD a.1), .sh)
  | _ => none
def oIsNotN (a b : RV) (_ : Store) : Option RV := match b.1 with
  | .non => some (.bl (!isNonD a.1), .sh)
  | _ => none
theorem ok_isN : OkOp2 w (fun x y H Q => y = .non ∧ Q (.bl (decide (x = .non))) H) oIsN := by
  intro g ρ S σ H a b x y q Q rel ha hb e h
  unfold oIsN at e
  split at e
  · rename_i eb
    cases e
    have l := hb.read.look
    rw [eb] at l
    exact ⟨l.non, by rw [rep_non ha.read]; exact h _ _ (.same rel (.bl _))⟩
  · cases e
theorem ok_isNotN : OkOp2 w (fun x y H Q => y = .non ∧ Q (.bl (!decide (x = .non))) H) oIsNotN := by
  intro g ρ S σ H a b x y q Q rel ha hb e h
  unfold oIsNotN at e
  split at e
  · rename_i eb
    cases e
    have l := hb.read.look
    rw [eb] at l
    exact ⟨l.non, by rw [rep_non ha.read]; exact h _ _ (.same rel (.bl _))⟩
  · cases e
end
end DL

set_option maxRecDepth 100000
/-! The value layer: a tuple so many times. -/
namespace DL
open PySem L2 PySem.Spec PyProof.Rows
section
variable (l : Addr) (items : Array Value) (n : Nat) (dd : Option Addr) (sl : Array (Option Value)) (x : Int) (u : Tok)
theorem tup_mul_same (c0 : (decide (x < -(2 ^ 63)) || decide (x ≥ 2 ^ 63)) = false) (c1 : (items.isEmpty || x == 1) = true) :
    Meets (Builtin.«tuple.__mul__» ⟨[.ref l, .int x u], []⟩) (fun _ R s => s.heap.get? l = some { cls := .type "tuple", dict := dd, data := .seq items n, slots := sl } ∧ R (.ok (.ret (Value.ref l))) s) :=
  .of_wp fun prog w A R s q => by
    obtain ⟨hp, g, d, tk, os⟩ := s
    obtain ⟨hl, h⟩ := q
    have f1 := AutoSeq1.idx_int
    wp_walk using wpAny_loadPart' hl
    refine wpAny_ite_false (decide_eq_false (by rw [c0]; exact Bool.false_ne_true)) ?_
    wp_walk using wpAny_loadPart' hl
    exact ⟨_, rfl, h⟩
theorem tup_mul_none (c0 : (decide (x < -(2 ^ 63)) || decide (x ≥ 2 ^ 63)) = false) (c1 : (items.isEmpty || x == 1) = false) (c2 : (decide (x ≤ 0) || items.isEmpty) = true) :
    Meets (Builtin.«tuple.__mul__» ⟨[.ref l, .int x u], []⟩) (fun _ R s => s.heap.get? l = some { cls := .type "tuple", dict := dd, data := .seq items n, slots := sl } ∧
      R (.ok (.ret (Value.ref s.heap.objs.size))) { s with heap := s.heap.push { cls := Value.type "tuple", data := Data.seq #[] }, toks := s.toks }) :=
  .of_wp fun prog w A R s q => by
    obtain ⟨hp, g, d, tk, os⟩ := s
    obtain ⟨hl, h⟩ := q
    have f1 := AutoSeq1.idx_int
    wp_walk using wpAny_loadPart' hl
    refine wpAny_ite_false (decide_eq_false (by rw [c0]; exact Bool.false_ne_true)) ?_
    wp_walk using wpAny_loadPart' hl
    repeat (first
      | (refine wpAny_ite_false (decide_eq_false (by rw [c1]; exact Bool.false_ne_true)) ?_; wp_walk using wpAny_loadPart' hl)
      | (refine wpAny_ite_true (decide_eq_true c2) ?_; wp_walk using wpAny_loadPart' hl))
    exact ⟨_, rfl, h⟩
end
theorem op_repA {X : Cx} : OpR X (binaryOp .Mult) (rRepA X.K) := by
  intro pins s σ H x y v u Q I rx ry ⟨l, k, xs, ex, ey, hT, h0, h1, hz, q1, q2⟩
  subst ex ey
  cases rx
  obtain ⟨t, rfl⟩ := ry
  obtain ⟨its, r, ⟨⟨cls, dd, data, sl⟩, ho, hc, n, hd⟩, hs⟩ := I.tuple hT
  simp only at hc hd
  subst hc hd
  have hle : its.length = xs.length := r.length.symm
  have c0 : (decide (k < -(2 ^ 63)) || decide (k ≥ 2 ^ 63)) = false := by
    rw [decide_eq_false (by omega), decide_eq_false (by omega)] <;> rfl
  have emp : its.toArray.isEmpty = decide (xs = []) := by
    cases its with
    | nil => rw [List.eq_nil_of_length_eq_zero hle.symm]; rfl
    | cons a b => cases xs with | nil => cases hle | cons c d => rfl
  refine wpAny_binaryOp_repeat_ref (T := "tuple") (U := "int") (by decide) ⟨_, ho, rfl⟩ (fun s' => typeIs_int s' k t) noFill_tuple_mul F.fills_int_mul F.slot_int_rmul repeat_tuple F.slot_int_index.lookup
    (call_meets F.slot_int_rmul (typeIs_int s k t) F.entry_int_rmul (F.args_int_rmul_2 _ _) (int_rmul_tuple k t l its.toArray n dd sl) ⟨ho, rfl, ⟨_, ho, rfl⟩, ?_⟩)
  by_cases e : k = 1 ∨ xs = []
  · refine call_meets F.slot_tuple_mul ⟨_, ho, rfl⟩ F.entry_tuple_mul (F.args_tuple_mul_2 _ _) (tup_mul_same l its.toArray n dd sl k t c0 ?_) ⟨ho, ⟨.ref l, H, I, rfl, q1 e⟩⟩
    rw [emp]
    rcases e with rfl | e
    · simp
    · simp [e]
  · have e1 : k ≠ 1 := fun z => e (.inl z)
    have e2 : xs ≠ [] := fun z => e (.inr z)
    have hi : its.toArray.isEmpty = false := by rw [emp]; exact decide_eq_false e2
    have c1 : (its.toArray.isEmpty || k == 1) = false := by rw [hi, Bool.false_or]; exact beq_eq_false_iff_ne.mpr e1
    have flen : (List.replicate k.toNat xs).flatten.length = k.toNat * xs.length := by simp
    by_cases e0 : k = 0
    · subst e0
      refine call_meets F.slot_tuple_mul ⟨_, ho, rfl⟩ F.entry_tuple_mul (F.args_tuple_mul_2 _ _) (tup_mul_none l its.toArray n dd sl 0 t c0 c1 (by rfl)) ⟨ho, ?_⟩
      exact ⟨.ref s.heap.objs.size, _, I.laid (t' := s.toks) (o := .tup []) (fun b ob z => Heap.get?_push_of_some _ z) (Nat.le_refl _) ⟨Nat.zero_le _, [], .nil, IsTup.new _ _⟩, rfl, q2 e1 e2 _ I.fresh⟩
    · have hsz0 : its.toArray.size = xs.length := by rw [List.size_toArray, hle]
      have hm : ((its.toArray.size : Nat) : Int) * k ≤ 1000000 := by
        rw [hsz0]
        have : ((xs.length * k.toNat : Nat) : Int) = (xs.length : Int) * k := by rw [Int.natCast_mul, Int.toNat_of_nonneg h0]
        omega
      have c2 : (decide (k ≤ 0) || its.toArray.isEmpty) = false := by rw [hi, Bool.or_false]; exact decide_eq_false (by omega)
      have c4 : Builtin.Tuple.tupleTooMany (((its.toArray.size : Nat) : Int) * k) = false := by
        unfold Builtin.Tuple.tupleTooMany
        rw [sizeLine_eq]
        exact decide_eq_false (by omega)
      have fl2 : (List.replicate k.toNat its).flatten.length ≤ sizeLine := by
        rw [PyProof.Rows.lm_len_rep_flat, hle, sizeLine_eq, Nat.mul_comm]
        omega
      refine call_meets F.slot_tuple_mul ⟨_, ho, rfl⟩ F.entry_tuple_mul (F.args_tuple_mul_2 _ _) (tuple_mulW l its.toArray n dd sl k t c0 c1 c2 (by omega) c4 (by rw [size_rep, List.size_toArray]; exact fl2)) ⟨ho, ?_⟩
      rw [size_rep]
      refine ⟨.ref s.heap.objs.size, _, I.laid (t' := s.toks) (o := .tup (List.replicate k.toNat xs).flatten) (fun b ob z => Heap.get?_push_of_some _ z) (Nat.le_refl _) ?_, rfl, q2 e1 e2 _ I.fresh⟩
      exact ⟨by rw [flen, sizeLine_eq, Nat.mul_comm]; omega, _, r.rep k.toNat, IsTup.new _ _⟩
abbrev CMu' := CMu
theorem op_mulA {X : Cx} : OpR X (binaryOp .Mult) (rMulA X.K) := (opI fun _ _ _ _ _ _ _ hc q => PyProof.Rows.mul_int q (CMulW.ok hc) : OpR X (binaryOp .Mult) (rI CMu fun i j => .int (i * j))).or (op_rep.or op_repA)
end DL

set_option maxRecDepth 100000
/-! The value layer: in, is, items, slices, built-in functions. -/
namespace DL
open PySem L2

section
variable {X : Cx} {w : Wd} {W : WX}
/-! ### in -/
def rInP (K : PySem.W.Frag) (neg : Bool) : R2 := fun x y H Q => ∃ d ds, Dp K H x d ∧ (Dp K H y (.list ds) ∨ Dp K H y (.tuple ds)) ∧ d.canLay0 = true ∧ PyData.canLayAll0 ds = true ∧ d.depth ≤ 190 ∧ Q (.bl (if neg then !(ds.any fun z => PyData.eqv z d) else ds.any fun z => PyData.eqv z d)) H
theorem op_inP (c : CxR X) : OpR X (compareOp .In) (rInP X.K false) := by
  intro pins s σ H x y v u Q I rx ry ⟨d, ds, hd, he, ld, le, dd, q⟩
  obtain ⟨as, r1⟩ := Dp.reads I d x v hd rx
  have hu : X.A.units + 1 + min (PyData.depthAll ds) d.depth < cLine := by
    have := c.un
    have : min (PyData.depthAll ds) d.depth ≤ d.depth := Nat.min_le_right _ _
    omega
  rcases he with he | he
  · obtain ⟨bs, r2⟩ := Dp.reads I _ y u he ry
    exact SeqAt.in_list_reads r2 r1 le ld hu ⟨.bl _, H, I, rfl, q⟩
  · obtain ⟨bs, r2⟩ := Dp.reads I _ y u he ry
    exact SeqAt.in_tuple_reads r2 r1 le ld hu ⟨.bl _, H, I, rfl, q⟩
theorem op_notInP (c : CxR X) : OpR X (compareOp .NotIn) (rInP X.K true) := by
  intro pins s σ H x y v u Q I rx ry ⟨d, ds, hd, he, ld, le, dd, q⟩
  obtain ⟨as, r1⟩ := Dp.reads I d x v hd rx
  have hu : X.A.units + 1 + min (PyData.depthAll ds) d.depth < cLine := by
    have := c.un
    have : min (PyData.depthAll ds) d.depth ≤ d.depth := Nat.min_le_right _ _
    omega
  rcases he with he | he
  · obtain ⟨bs, r2⟩ := Dp.reads I _ y u he ry
    exact SeqAt.notIn_list_reads r2 r1 le ld hu ⟨.bl _, H, I, rfl, q⟩
  · obtain ⟨bs, r2⟩ := Dp.reads I _ y u he ry
    exact SeqAt.notIn_tuple_reads r2 r1 le ld hu ⟨.bl _, H, I, rfl, q⟩
def memD (d : D) (ds : List D) : Bool := ds.any fun z => deq z d
theorem any_eqv {d : D} (hd : plain d = true) : ∀ ds : List D, plains ds = true → ((pys ds).any fun z => PyData.eqv z (py d)) = memD d ds
  | [], _ => rfl
  | e :: ds, h => by
    rw [plains, Bool.and_eq_true] at h
    unfold memD
    rw [pys, List.any_cons, List.any_cons, py_eqv e d h.1 hd]
    have := any_eqv hd ds h.2
    unfold memD at this
    rw [this]
/-- one sign of a text -/
def signIn (x y : String) : Bool := match x.toList with
  | [c] => decide (c ∈ y.toList)
  | _ => false
def inSeq (d : D) (ds : List D) (neg : Bool) : Option RV := if plain d = true ∧ plains ds = true ∧ dep d ≤ 190 then some (.bl (if neg then !memD d ds else memD d ds), .sh) else none
/-- dicts: ints and texts as keys, or tuples -/
def getK (kvs : List (D × D)) (k : D) : Option D := (kvs.find? fun p => deq p.1 k).map (·.2)
def oInG (neg : Bool) (a b : RV) (S : Store) : Option RV := match view S b.1 with
  | .lst ds => inSeq (view S a.1) ds neg
  | .tup ds => inSeq (view S a.1) ds neg
  | .str y => match view S a.1 with
    | .str x => if x.length = 1 then some (.bl (if neg then !signIn x y else signIn x y), .sh) else none
    | _ => none
  | _ => none
abbrev oIn := oInG false
abbrev oNotIn := oInG true
def rInS (neg : Bool) : R2 := fun x y H Q => ∃ (c : Nat) (z : Str), x = .str ⟨#[c]⟩ ∧ y = .str z ∧ Q (.bl (if neg then !decide (c ∈ z.cps.toList) else decide (c ∈ z.cps.toList))) H
def rInA (K : PySem.W.Frag) (neg : Bool) : R2 := fun x y H Q => rInP K neg x y H Q ∨ rInS neg x y H Q
theorem op_inA (c : CxR X) : OpR X (compareOp .In) (rInA X.K false) := (op_inP c).or op_in_sign
theorem op_notInA (c : CxR X) : OpR X (compareOp .NotIn) (rInA X.K true) := (op_notInP c).or op_notIn_sign
theorem one_sign {x : String} (h : x.length = 1) : ∃ c : Char, x.toList = [c] := by
  have : x.toList.length = 1 := by rw [String.length_toList]; exact h
  match e : x.toList, this with
  | [c], _ => exact ⟨c, rfl⟩
theorem signIn_s2 {x y : String} {c : Char} (h : x.toList = [c]) : decide (c.toNat ∈ (s2 y).cps.toList) = signIn x y := by
  unfold signIn
  rw [h, s2_cps]
  simp only [List.mem_map, decide_eq_decide]
  constructor
  · rintro ⟨d, hd, e⟩
    rw [show c = d from Char.ext (UInt32.toNat_inj.mp e.symm)]
    exact hd
  · intro hc
    exact ⟨c, hc, rfl⟩
theorem ok_inG {neg : Bool} : OkOp2 w (rInA w.K neg) (oInG neg) := by
  intro g ρ S σ H a b x y q Q rel ha hb e h
  have seq : ∀ ds, (Dp w.K H y (.list (pys ds)) ∨ Dp w.K H y (.tuple (pys ds))) ∨ plains ds = false → inSeq (view S a.1) ds neg = some q → rInA w.K neg x y H Q := by
    intro ds hds e
    unfold inSeq at e
    split at e
    · rename_i c
      cases e
      rcases hds with hds | hds
      · refine .inl ⟨_, _, (look_view rel ha).dp c.1, hds, py_lay _, pys_lay _, by rw [py_dep]; exact c.2.2, ?_⟩
        rw [any_eqv c.1 ds c.2.1]
        exact h _ _ (.same rel (.bl _))
      · rw [hds] at c; exact absurd c.2.1 Bool.false_ne_true
    · cases e
  unfold oInG at e
  split at e
  · rename_i ds eb
    cases hp : plains ds with
    | false => exact seq ds (.inr hp) e
    | true => exact seq ds (.inl (.inl ((hb.lk rel eb).dp (by simpa [plain] using hp)))) e
  · rename_i ds eb
    cases hp : plains ds with
    | false => exact seq ds (.inr hp) e
    | true => exact seq ds (.inl (.inr ((hb.lk rel eb).dp (by simpa [plain] using hp)))) e
  · rename_i t eb
    split at e
    · rename_i z ea
      split at e
      · rename_i c
        cases e
        obtain ⟨ch, hc⟩ := one_sign c
        refine .inr ⟨ch.toNat, s2 t, ?_, (hb.lk rel eb).str, ?_⟩
        · rw [(ha.lk rel ea).str, show s2 z = _ from Str.ofString_eq_toList z, hc]; rfl
        · rw [signIn_s2 hc]
          exact h _ _ (.same rel (.bl _))
      · cases e
    · cases e
  · cases e

/-! ### is True, is False -/
def oIsB (neg : Bool) (a b : RV) (_ : Store) : Option RV := match a.1, b.1 with
  | .bl p, .bl q => some (.bl (if neg then !(p == q) else p == q), .sh)
  | _, _ => none

/-! ### items -/
theorem ixN_lt {n : Nat} {i : Int} {j : Nat} (h : ixN n i = some j) : j < n := (ixN_seq h).2.1
theorem Reps.atI {m : List Addr} {Z : Addr → Prop} {H : Hp} {ds : List D} {vs : List V} {i : Int} {d : D} (h : Reps w m Z H ds vs) (e : L2.atI ds i = some d) : ∃ v, L2.atI vs i = some v ∧ Rep w m Z H d v := by
  unfold L2.atI at e ⊢
  rw [← h.length]
  cases q : ixN ds.length i with
  | none => rw [q] at e; cases e
  | some j =>
    rw [q] at e
    exact h.get e
def oIdx (a b : RV) (S : Store) : Option RV := match view S a.1, view S b.1 with
  | .lst ds, .int i => (atI ds i).map fun d => (d, .sh)
  | .tup ds, .int i => (atI ds i).map fun d => (d, .sh)
  | .str x, .int i => if x.length ≤ sizeLine then (atI x.toList i).map fun c => (.str (String.singleton c), .sh) else none
  | _, _ => none
theorem s2_single (c : Char) : s2 (String.singleton c) = ⟨#[c.toNat]⟩ := by
  rw [show s2 (String.singleton c) = _ from Str.ofString_eq_toList _]
  simp
theorem ok_idx : OkOp2 w (rIx w.K) oIdx := by
  intro g ρ S σ H a b x y q Q rel ha hb e h
  unfold oIdx at e
  split at e
  · rename_i ds i ea eb
    obtain ⟨d, e1, rfl⟩ := Option.map_eq_some_iff.mp e
    obtain ⟨p, vs, rfl, hp, rp⟩ := (ha.lk rel ea).lst
    obtain ⟨v, hv, rv⟩ := rp.atI e1
    exact .inl ⟨p, vs, i, v, rfl, (hb.lk rel eb).int, .of hp, hv, h _ _ (.same rel rv)⟩
  · rename_i ds i ea eb
    obtain ⟨d, e1, rfl⟩ := Option.map_eq_some_iff.mp e
    obtain ⟨p, vs, rfl, hp, rp⟩ := (ha.lk rel ea).tup
    obtain ⟨v, hv, rv⟩ := rp.atI e1
    exact .inr (.inl ⟨p, vs, i, v, rfl, (hb.lk rel eb).int, hp, hv, h _ _ (.same rel rv)⟩)
  · rename_i z i ea eb
    split at e
    · rename_i c
      obtain ⟨d, e1, rfl⟩ := Option.map_eq_some_iff.mp e
      refine .inr (.inr ⟨s2 z, i, d.toNat, (ha.lk rel ea).str, (hb.lk rel eb).int, by rw [s2_len]; exact c, ?_, ?_⟩)
      · unfold L2.atI at e1 ⊢
        rw [s2_cps, List.length_map]
        cases q : ixN z.toList.length i with
        | none => rw [q] at e1; cases e1
        | some j =>
          rw [q] at e1
          show (List.map Char.toNat z.toList)[j]? = _
          rw [List.getElem?_map]
          have e2 : z.toList[j]? = some d := e1
          rw [e2]; rfl
      · rw [← s2_single]
        exact h _ _ (.same rel (.str _))
    · cases e
  · cases e
theorem e_idx {a b : Expr} {fa fb : SE} {pos : Pos} (hs : PlainIx b) (ha : PE X a (rdE w W fa)) (hb : PE X b (rdE w W fb)) (hK : X.K = w.K) : PE X (.Subscript a b pos) (rdE w W (sOp2 oIdx fa fb)) :=
  PE.imp (pe_ix (r := rIx w.K) (hK ▸ ix_seq) ha hb hs) fun _ _ _ h => rd_op2 ok_idx h
end
end DL

set_option maxRecDepth 100000
/-! The value layer: slices, built-in functions. -/
namespace DL
open PySem L2

section
variable {X : Cx} {w : Wd} {W : WX}
/-! ### slices -/
abbrev SO := Loc → Store → R (Option Int)
def PostO (w : Wd) (W : WX) (ρ : Loc) (σ : St) (Q : Option Int → Hp → Prop) (g : G) (H : Hp) (t : R (Option Int)) : Prop := match t with
  | .ok b S' => ∀ H', (∃ m', StepE g.m H m' H' ∧ Rel w (g.at m') ρ S' σ H') → Q b H'
  | .exc x S' => ∀ cls dd H', XOk w g H ρ σ x S' cls dd H' → W cls dd σ H'
  | .bad => False
theorem goodO {ρ : Loc} {σ : St} {Q : Option Int → Hp → Prop} : Good w W ρ σ R.exc R.bad (PostO w W ρ σ Q) where
  step := fun g H m1 H1 t s p => by
    cases t with
    | ok r S => exact fun H' ⟨m', a, b⟩ => p H' ⟨m', s.trans a, b⟩
    | exc x S => exact fun cls dd H' q => p cls dd H' (q.trans s)
    | bad => exact p
  exc := fun _ _ _ _ p => p
  bad := fun _ _ p => p
def rdO (w : Wd) (W : WX) (f : SO) : TO := fun σ H Q => ∃ g ρ S, Rel w g ρ S σ H ∧ PostO w W ρ σ Q g H (f ρ S)
theorem bindO {ρ : Loc} {σ : St} {T : Type} {ex : D → Store → T} {bd : T} {P : G → Hp → T → Prop} {g : G} {S : Store} {H : Hp} {f : SO} {k : Option Int → Store → T} (rel : Rel w g ρ S σ H) (h : P g H ((f ρ S).go ex bd k)) (gd : Good w W ρ σ ex bd P) :
    rdO w W f σ H fun b H1 => ∃ S1 m1, StepE g.m H m1 H1 ∧ Rel w (g.at m1) ρ S1 σ H1 ∧ P (g.at m1) H1 (k b S1) := by
  refine ⟨g, ρ, S, rel, ?_⟩
  cases e : f ρ S with
  | ok r S1 =>
    rw [e] at h
    exact fun H1 ⟨m1, s, r'⟩ => ⟨S1, m1, s, r', gd.step _ _ _ _ _ s h⟩
  | exc x S1 => rw [e] at h; exact gd.exc _ _ _ _ h
  | bad => rw [e] at h; exact gd.bad _ _ h
theorem rdO_imp {f : SO} {σ : St} {H : Hp} {Q Q' : Option Int → Hp → Prop} (h : rdO w W f σ H Q) (i : ∀ v H', Q v H' → Q' v H') : rdO w W f σ H Q' := by
  obtain ⟨g, ρ, S, r, h⟩ := h
  refine ⟨g, ρ, S, r, ?_⟩
  cases e : f ρ S with
  | ok r S' => rw [e] at h; exact fun H' q => i r H' (h H' q)
  | exc x S' => rw [e] at h; exact h
  | bad => rw [e] at h; exact h
theorem PO.imp {e : Option Expr} {t t' : TO} (h : PO X e t) (i : ∀ σ H Q, t' σ H Q → t σ H Q) : PO X e t' := ⟨fun pins s σ H Q I q => h.run pins s σ H Q I (i _ _ _ q)⟩
def sNoPart : SO := fun _ S => .ok none S
def sPart (f : SE) : SO := fun ρ S => (f ρ S).bind fun r S1 => match r.1 with
  | .int i => .ok (some i) S1
  | _ => .bad
theorem o_none : PO X none (rdO w W sNoPart) := PO.imp po_none fun σ H Q ⟨g, ρ, S, rel, h⟩ => h H ⟨g.m, .refl _ _, rel⟩
theorem o_some {e : Expr} {f : SE} (h : PE X e (rdE w W f)) : PO X (some e) (rdO w W (sPart f)) := PO.imp (po_some h) fun σ H Q ⟨g, ρ, S, rel, h⟩ => by
  refine rdE_imp (bindE rel h goodO) fun v H1 ⟨r1, S1, m1, s1, rel1, res1, _, h1⟩ => ?_
  obtain ⟨d, fl⟩ := r1
  cases d with
  | int i => exact ⟨i, (show Look w m1 g.Z H1 (.int i) v from res1.arg.read.look).int, h1 H1 ⟨m1, .refl _ _, rel1⟩⟩
  | _ => exact h1.elim
def cutD {α : Type} (ds : List α) (lo hi : Option Int) : List α := (ds.drop (HT.sIx ds.length 0 lo)).take (HT.sIx ds.length ds.length hi - HT.sIx ds.length 0 lo)
def oSl (a : RV) (lo hi : Option Int) (S : Store) : Option RV := match view S a.1 with
  | .tup ds => some (.tup (cutD ds lo hi), .sh)
  | .lst ds => some (.lst (cutD ds lo hi), .own)
  | .str x => if x.length ≤ sizeLine then some (.str (String.ofList (cutD x.toList lo hi)), .sh) else none
  | _ => none
def sSl (f : SE) (lo hi : SO) : SE := fun ρ S => (f ρ S).bind fun r S1 => (lo ρ S1).bind fun l S2 => (hi ρ S2).bind fun u S3 => opt (oSl r l u S3) S3
def rSlAll (K : PySem.W.Frag) : V → Option Int → Option Int → Hp → VK → Prop := fun x lo hi H Q => rSlA K x lo hi H Q ∨ rSlL K x lo hi H Q ∨ rSlS x lo hi H Q
theorem sl_all : SlR X (rSlAll X.K) := sl_tupA.or (sl_list.or sl_str)
theorem cutD_whole {α : Type} {ds : List α} {lo hi : Option Int} (h : HT.sIx ds.length 0 lo = 0 ∧ HT.sIx ds.length ds.length hi = ds.length) : cutD ds lo hi = ds := by
  unfold cutD
  rw [h.1, h.2]; simp
theorem Reps.cut {m : List Addr} {Z : Addr → Prop} {H : Hp} {ds : List D} {vs : List V} {lo hi : Option Int} (h : Reps w m Z H ds vs) : Reps w m Z H (cutD ds lo hi) (cutV vs lo hi) := by
  unfold cutD cutV
  rw [← h.length]
  exact (h.drop _).take _
theorem e_sl {e : Expr} {lo hi : Option Expr} {f : SE} {fl fh : SO} {pos p2 : Pos} (hK : X.K = w.K) (he : PE X e (rdE w W f)) (hl : PO X lo (rdO w W fl)) (hh : PO X hi (rdO w W fh)) : PE X (.Subscript e (.Slice lo hi none p2) pos) (rdE w W (sSl f fl fh)) := by
  refine PE.imp (pe_slice (hr := (hK ▸ sl_all : SlR X (rSlAll w.K))) he hl hh) fun σ H Q ⟨g, ρ, S, rel, h⟩ => ?_
  refine rdE_imp (bindE rel h goodE) fun v H1 ⟨r1, S1, m1, s1, rel1, res1, _, h1⟩ => ?_
  refine rdO_imp (bindO rel1 h1 goodE) fun l H2 ⟨S2, m2, s2, rel2, h2⟩ => ?_
  refine rdO_imp (bindO rel2 h2 goodE) fun u H3 ⟨S3, m3, s3, rel3, h3⟩ => ?_
  obtain ⟨q, e1, h4⟩ := post_opt h3
  have lk := look_view rel3 ((s2.trans s3).arg res1.arg)
  unfold oSl at e1
  split at e1
  · rename_i ds ea
    rw [ea] at lk
    cases e1
    obtain ⟨p, vs, rfl, hp, rp⟩ := lk.tup
    refine .inl ⟨p, vs, rfl, hp, fun wh => ?_, fun _ t ht => h4 _ _ (.tup rel3 rp.cut ht)⟩
    rw [← rp.length] at wh
    rw [cutD_whole wh] at h4
    exact h4 _ _ (.same rel3 (lk.rep rfl))
  · rename_i ds ea
    rw [ea] at lk
    cases e1
    obtain ⟨p, vs, rfl, hp, rp⟩ := lk.lst
    exact .inr (.inl ⟨p, vs, rfl, .of hp, fun t ht => h4 _ _ (.lst rel3 rp.cut ht)⟩)
  · rename_i z ea
    rw [ea] at lk
    split at e1
    · rename_i c
      cases e1
      refine .inr (.inr ⟨_, lk.str, by rw [s2_len]; exact c, ?_⟩)
      have eq : cutS (DL.s2 z) l u = DL.s2 (String.ofList (cutD z.toList l u)) := by
        rw [show DL.s2 (String.ofList _) = _ from Str.ofString_eq_toList _, String.toList_ofList]
        unfold cutS cutD
        rw [s2_cps, s2_len, String.length_toList]
        simp only [List.map_take, List.map_drop]
      rw [eq]
      exact h4 _ _ (.same rel3 (.str _))
    · cases e1
  · cases e1

/-! ### built-in functions by values -/
theorem CallR.or {f : Value} {r r' : List V → Hp → VK → Prop} (h : CallR X f r) (h' : CallR X f r') : CallR X f (fun xs H Q => r xs H Q ∨ r' xs H Q) :=
  fun pins s σ H xs us Q I v q => q.elim (h pins s σ H xs us Q I v) (h' pins s σ H xs us Q I v)
theorem rd_opN {r : List V → Hp → VK → Prop} {op : List RV → Store → Option RV} (ok : OkOpN w r op) {fs : SA} {σ : St} {H : Hp} {Q : VK} (h : rdE w W (sOpN op fs) σ H Q) : tCB r (rdA w W fs) σ H Q := by
  obtain ⟨g, ρ, S, rel, h⟩ := h
  refine rdA_imp (bindA rel h goodE) fun vs H1 ⟨rs, S1, m1, s1, rel1, as, _, h1⟩ => ?_
  obtain ⟨q, e, h3⟩ := post_opt h1
  exact ok (g.at m1) ρ S1 σ H1 rs vs q Q rel1 as e h3
/-- a global name of a built-in -/
structure BN (X : Cx) (x : Str) (u : Value) : Prop where
  gl : Gl X x
  mg : X.mg x = none
  bt : bootBuiltins x = some u
  n1 : x ≠ "__name__"
  n2 : (x == ("__debug__" : Str)) = false
theorem e_callB {r : List V → Hp → VK → Prop} {op : List RV → Store → Option RV} (ok : OkOpN w r op) {x : Str} {id : String} (hc : CallR X (.builtin id) r) (b : BN X x (.builtin id)) {e : Expr} {es : List Expr} {fs : SA} {p pos : Pos}
    (he : starEach (e :: es) X.env = (false, eval e X.env) :: starEach es X.env) (hpl : (backTo pos (starEach es X.env)).any (·.1) = false) (ha : PA X (e :: es) (rdA w W fs)) : PE X (.Call (.Name x p) (e :: es) [] pos) (rdE w W (sOpN op fs)) :=
  PE.imp (pe_callB hc b.gl b.mg b.bt ha b.n1 b.n2 he hpl) fun _ _ _ h => rd_opN ok h
theorem e_callTy {r : List V → Hp → VK → Prop} {op : List RV → Store → Option RV} (ok : OkOpN w r op) {x : Str} {T : String} (hc : CallR X (.type T) r) (b : BN X x (.type T)) {e : Expr} {es : List Expr} {fs : SA} {p pos : Pos}
    (he : starEach (e :: es) X.env = (false, eval e X.env) :: starEach es X.env) (hpl : (backTo pos (starEach es X.env)).any (·.1) = false) (ha : PA X (e :: es) (rdA w W fs)) : PE X (.Call (.Name x p) (e :: es) [] pos) (rdE w W (sOpN op fs)) :=
  PE.imp (pe_callTy hc b.gl b.mg b.bt ha b.n1 b.n2 he hpl) fun _ _ _ h => rd_opN ok h

def on1 (f : RV → Store → Option RV) (rs : List RV) (S : Store) : Option RV := match rs with
  | [a] => f a S
  | _ => none
/-- one argument -/
theorem ok_on1 {r : List V → Hp → VK → Prop} {f : RV → Store → Option RV} (h : OkOp1 w (fun x H Q => r [x] H Q) f) : OkOpN w r (on1 f) := by
  intro g ρ S σ H as xs q Q rel ha e k
  cases ha with
  | nil => cases e
  | cons a t =>
    cases t with
    | nil => exact h g ρ S σ H _ _ q Q rel a e k
    | cons _ _ => cases e
def on2 (f : RV → RV → Store → Option RV) (rs : List RV) (S : Store) : Option RV := match rs with
  | [a, b] => f a b S
  | _ => none
theorem ok_on2 {r : List V → Hp → VK → Prop} {f : RV → RV → Store → Option RV} (h : OkOp2 w (fun x y H Q => r [x, y] H Q) f) : OkOpN w r (on2 f) := by
  intro g ρ S σ H as xs q Q rel ha e k
  cases ha with
  | nil => cases e
  | cons a t =>
    cases t with
    | nil => cases e
    | cons b t =>
      cases t with
      | nil => exact h g ρ S σ H _ _ _ _ q Q rel a b e k
      | cons _ _ => cases e
end
end DL

set_option maxRecDepth 100000
/-! The value layer: statements. -/
namespace DL
open PySem L2

/-- what a statement comes to -/
inductive O where
  | nx (ρ : Loc) (S : Store)
  | rt (r : RV) (S : Store)
  | bk (ρ : Loc) (S : Store)
  | ct (ρ : Loc) (S : Store)
  | ex (x : D) (ρ : Loc) (S : Store)
  | bad
abbrev SS := Loc → Store → O

/-- what a statement does to the heap: one's own boxes may change, too -/
structure StepS (g : G) (H : Hp) (g' : G) (H' : Hp) : Prop where
  keep : ∀ b o, H b = some o → (b ∉ g.m ∧ b ∉ g.zo ∨ fixO b o) → (∀ ps, o ≠ .tbl ps) → H' b = some o
  grow : ∀ b, H' b = none → H b = none
  ms : ∃ ex, g'.m = g.m ++ ex ∧ ∀ b ∈ ex, H b = none
  zo : ∀ b ∈ g'.zo, b ∈ g.zo ∨ H b = none
  zb : g'.zb = g.zb
  sl : g'.sl = g.sl
theorem StepE.toS {g : G} {m' : List Addr} {H H' : Hp} (s : StepE g.m H m' H') : StepS g H (g.at m') H' :=
  ⟨fun b o e h t => s.keep b o e (h.imp And.left id) t, s.grow, s.ms, fun _ h => .inl h, rfl, rfl⟩
theorem StepS.refl (g : G) (H : Hp) : StepS g H g H := (StepE.refl g.m H).toS
theorem StepS.trans {g1 g2 g3 : G} {H1 H2 H3 : Hp} (a : StepS g1 H1 g2 H2) (b : StepS g2 H2 g3 H3) : StepS g1 H1 g3 H3 where
  keep := fun c o e h t => by
    obtain ⟨e1, q1, n1⟩ := a.ms
    refine b.keep c o (a.keep c o e h t) (h.imp (fun ⟨x, y⟩ => ⟨fun q => ?_, fun q => ?_⟩) id) t
    · rw [q1] at q
      rcases List.mem_append.mp q with q | q
      · exact x q
      · rw [n1 c q] at e; cases e
    · rcases a.zo c q with q | q
      · exact y q
      · rw [q] at e; cases e
  grow := fun c e => a.grow c (b.grow c e)
  ms := by
    obtain ⟨e1, q1, n1⟩ := a.ms
    obtain ⟨e2, q2, n2⟩ := b.ms
    refine ⟨e1 ++ e2, by rw [q2, q1, List.append_assoc], fun c hc => ?_⟩
    rcases List.mem_append.mp hc with q | q
    · exact n1 c q
    · exact a.grow c (n2 c q)
  zo := fun c h => by
    rcases b.zo c h with q | q
    · exact a.zo c q
    · exact .inr (a.grow c q)
  zb := b.zb.trans a.zb
  sl := b.sl.trans a.sl

section
variable {w : Wd} {W : WX}
def SOk (w : Wd) (g : G) (H : Hp) (ρ : Loc) (S : Store) (σ : St) (H' : Hp) : Prop := ∃ g', StepS g H g' H' ∧ Rel w g' ρ S σ H'
/-- what is handed back: only what is lent stays apart from it -/
def RtOk (w : Wd) (g : G) (H : Hp) (r : RV) (S : Store) (v : V) (H' : Hp) : Prop := ∃ g', StepS g H g' H' ∧ Stored w g'.m g'.Z H' S ∧ g'.m.Nodup ∧ (∀ b ∈ g'.m, ¬ g'.Z b) ∧ (∀ b, (b ∈ g'.m ∨ g'.Z b) → H' b ≠ none) ∧ (∀ b ∈ g'.zo, b ∉ g'.zb) ∧
  match r.2 with
  | .sh => Rep w g'.m g'.Z H' r.1 v
  | .own => ∃ a, v = .ref a ∧ a ∉ g'.m ∧ BoxW w g'.m g'.Z H' r.1 a ∧ a ∈ g'.zo
  | _ => False
def SXOk (w : Wd) (g : G) (H : Hp) (x : D) (ρ : Loc) (S : Store) (cls : Value) (dd : Option Addr) (σ : St) (H' : Hp) : Prop := ∃ g', StepS g H g' H' ∧ Rel w g' ρ S σ H' ∧ RepX w g'.m g'.Z H' x cls dd
def PostS (w : Wd) (W : WX) (D : Ends) (g : G) (H : Hp) (t : O) : Prop := match t with
  | .nx ρ S => ∀ σ' H', SOk w g H ρ S σ' H' → D.nx σ' H'
  | .rt r S => ∀ v H', RtOk w g H r S v H' → D.rt v H'
  | .bk ρ S => ∀ σ' H', SOk w g H ρ S σ' H' → D.bk σ' H'
  | .ct ρ S => ∀ σ' H', SOk w g H ρ S σ' H' → D.ct σ' H'
  | .ex x ρ S => ∀ cls dd σ' H', SXOk w g H x ρ S cls dd σ' H' → W cls dd σ' H'
  | .bad => False
def rdS (w : Wd) (W : WX) (f : SS) : TS := fun D σ H => ∃ g ρ S, Rel w g ρ S σ H ∧ PostS w W D g H (f ρ S)
theorem PostS.step {D : Ends} {g g1 : G} {H H1 : Hp} {t : O} (s : StepS g H g1 H1) (p : PostS w W D g H t) : PostS w W D g1 H1 t := by
  cases t with
  | nx ρ S => exact fun σ' H' ⟨g', a, b⟩ => p σ' H' ⟨g', s.trans a, b⟩
  | rt r S => exact fun v H' ⟨g', a, b⟩ => p v H' ⟨g', s.trans a, b⟩
  | bk ρ S => exact fun σ' H' ⟨g', a, b⟩ => p σ' H' ⟨g', s.trans a, b⟩
  | ct ρ S => exact fun σ' H' ⟨g', a, b⟩ => p σ' H' ⟨g', s.trans a, b⟩
  | ex x ρ S => exact fun cls dd σ' H' ⟨g', a, b⟩ => p cls dd σ' H' ⟨g', s.trans a, b⟩
  | bad => exact p
theorem goodS {ρ : Loc} {σ : St} {D : Ends} : Good w W ρ σ (fun x S => .ex x ρ S) .bad (PostS w W D) where
  step := fun g H m1 H1 t s p => p.step s.toS
  exc := fun g H x S p cls dd H' ⟨m', a, b, c⟩ => p cls dd σ H' ⟨g.at m', a.toS, b, c⟩
  bad := fun _ _ p => p

/-! ### blocks -/
def sSkip : SS := fun ρ S => .nx ρ S
def sSeq (s t : SS) : SS := fun ρ S => match s ρ S with
  | .nx ρ1 S1 => t ρ1 S1
  | o => o
variable {X : Cx}
theorem ss_nil : PSs X [] (rdS w W sSkip) := PSs.imp pss_nil fun D σ H ⟨g, ρ, S, rel, h⟩ => h σ H ⟨g, .refl _ _, rel⟩
theorem ss_cons {st : Stmt} {rest : List Stmt} {s t : SS} (h1 : PS X st (rdS w W s)) (h2 : PSs X rest (rdS w W t)) : PSs X (st :: rest) (rdS w W (sSeq s t)) := by
  refine PSs.imp (pss_cons h1 h2) fun D σ H ⟨g, ρ, S, rel, h⟩ => ⟨g, ρ, S, rel, ?_⟩
  unfold sSeq at h
  cases e : s ρ S with
  | nx ρ1 S1 =>
    rw [e] at h
    exact fun σ' H' ⟨g', a, b⟩ => ⟨g', ρ1, S1, b, PostS.step a h⟩
  | rt r S1 => rw [e] at h; exact h
  | bk ρ1 S1 => rw [e] at h; exact h
  | ct ρ1 S1 => rw [e] at h; exact h
  | ex x ρ1 S1 => rw [e] at h; exact h
  | bad => rw [e] at h; exact h
theorem ss_one {st : Stmt} {s : SS} (h : PS X st (rdS w W s)) : PSs X [st] (rdS w W s) := pss_one h
def sBreak : SS := fun ρ S => .bk ρ S
def sCont : SS := fun ρ S => .ct ρ S
theorem st_pass {pos : Pos} : PS X (.Pass pos) (rdS w W sSkip) := PS.imp ps_pass fun D σ H ⟨g, ρ, S, rel, h⟩ => h σ H ⟨g, .refl _ _, rel⟩
theorem st_break {pos : Pos} : PS X (.Break pos) (rdS w W sBreak) := PS.imp ps_break fun D σ H ⟨g, ρ, S, rel, h⟩ => h σ H ⟨g, .refl _ _, rel⟩
theorem st_continue {pos : Pos} : PS X (.Continue pos) (rdS w W sCont) := PS.imp ps_continue fun D σ H ⟨g, ρ, S, rel, h⟩ => h σ H ⟨g, .refl _ _, rel⟩
/-- an expression ahead, in a statement -/
def goS {α : Type} (r : R α) (ρ : Loc) (k : α → Store → O) : O := r.go (fun x S => .ex x ρ S) .bad k
def sDrop (f : SE) : SS := fun ρ S => goS (f ρ S) ρ fun _ S1 => .nx ρ S1
theorem st_expr {e : Expr} {f : SE} {pos : Pos} (hs : swapsWith e none pos.line X.env = pure false) (he : PE X e (rdE w W f)) : PS X (.Expr e pos) (rdS w W (sDrop f)) := by
  refine PS.imp (ps_expr he hs) fun D σ H ⟨g, ρ, S, rel, h⟩ => ?_
  refine rdE_imp (bindE rel h goodS) fun v H1 ⟨r1, S1, m1, s1, rel1, res1, _, h1⟩ => ?_
  exact h1 σ H1 ⟨g.at m1, .refl _ _, rel1⟩
def sRet (f : SE) : SS := fun ρ S => goS (f ρ S) ρ fun r S1 => if leakOk r = true then .rt (r.1, if r.2 = .own then .own else .sh) S1 else .bad
theorem BoxW.ne {m : List Addr} {Z : Addr → Prop} {H : Hp} {d : D} {a : Addr} (b : BoxW w m Z H d a) : H a ≠ none := by
  cases b with
  | lst h _ => rw [h]; simp
  | dk h _ => rw [h]; simp
  | dt h _ => rw [h]; simp
  | ins h _ => rw [h]; simp
theorem Box.ne {m : List Addr} {Z : Addr → Prop} {H : Hp} {d : D} {a : Addr} (b : Box w m Z H d a) : H a ≠ none := by
  cases b with
  | lst h _ => rw [h]; simp
  | dk h _ => exact rd_ne h
  | dt h _ => exact rd_ne h
  | ins h _ => rw [h]; simp
/-- one's own box comes to the state: g behind it -/
def G.own (g : G) (m : List Addr) (a : Addr) : G := { m := m, zo := a :: g.zo, zb := g.zb, sl := g.sl }
theorem G.own_Z {g : G} {m : List Addr} {a : Addr} (b : Addr) : (g.own m a).Z b ↔ (g.Z b ∨ b = a) := by
  unfold G.Z G.own
  simp only [List.mem_cons]
  constructor
  · rintro ((h | h) | h)
    · exact .inr h
    · exact .inl (.inl h)
    · exact .inl (.inr h)
  · rintro ((h | h) | h)
    · exact .inl (.inr h)
    · exact .inr h
    · exact .inl (.inl h)
theorem StepS.own {g : G} {m1 : List Addr} {a : Addr} {H H1 : Hp} (s : StepE g.m H m1 H1) (n : H a = none) : StepS g H (g.own m1 a) H1 where
  keep := s.toS.keep
  grow := s.grow
  ms := s.ms
  zo := fun b hb => by
    rcases List.mem_cons.mp hb with rfl | hb
    · exact .inr n
    · exact .inl hb
  zb := rfl
  sl := rfl
theorem Rel.rt {g : G} {ρ : Loc} {S1 : Store} {σ : St} {H H1 : Hp} {m1 : List Addr} {r : RV} {v : V} (s1 : StepE g.m H m1 H1) (rel1 : Rel w (g.at m1) ρ S1 σ H1) (res : Res w (g.at m1) H r S1 v H1) (l : leakOk r = true) :
    RtOk w g H (r.1, if r.2 = .own then .own else .sh) S1 v H1 := by
  obtain ⟨d, fl⟩ := r
  cases fl with
  | sh => exact ⟨_, s1.toS, rel1.sto, rel1.nd, rel1.sep, rel1.trk, rel1.sez, res⟩
  | bor => exact ⟨_, s1.toS, rel1.sto, rel1.nd, rel1.sep, rel1.trk, rel1.sez, Arg.rep (r := (d, .bor)) (Lent.read res) l⟩
  | mine => exact ⟨_, s1.toS, rel1.sto, rel1.nd, rel1.sep, rel1.trk, rel1.sez, Arg.rep (r := (d, .mine)) res l⟩
  | own =>
    obtain ⟨a, e, hn, nm, nz, b, sto⟩ := res
    have lz : ∀ c, (g.own m1 a).Z c → (fun c => g.Z c ∨ c = a) c ∨ H1 c = none := fun c h => .inl ((G.own_Z c).mp h)
    refine ⟨g.own m1 a, .own s1 hn, sto.less lz, rel1.nd, fun c hc z => ?_, fun c hc => ?_, fun c hc => ?_, a, e, nm, b.less lz, List.mem_cons_self⟩
    · rcases (G.own_Z c).mp z with z | rfl
      · exact rel1.sep c hc z
      · exact nm hc
    · rcases hc with hc | hc
      · exact rel1.trk c (.inl hc)
      · rcases (G.own_Z c).mp hc with z | rfl
        · exact rel1.trk c (.inr z)
        · exact b.ne
    · rcases List.mem_cons.mp hc with rfl | hc
      · exact fun q => nz (.inr q)
      · exact rel1.sez c hc
theorem st_ret {e : Expr} {f : SE} {pos : Pos} (he : PE X e (rdE w W f)) : PS X (.Return (some e) pos) (rdS w W (sRet f)) := by
  refine PS.imp (ps_ret he) fun D σ H ⟨g, ρ, S, rel, h⟩ => ?_
  refine rdE_imp (bindE0 rel h goodS) fun v H1 ⟨r1, S1, m1, s1, rel1, res1, h1⟩ => ?_
  split at h1
  · rename_i c
    exact h1 v H1 (Rel.rt s1 rel1 res1 c)
  · exact h1.elim
def sRetN : SS := fun _ S => .rt (.non, .sh) S
theorem st_retN {pos : Pos} : PS X (.Return none pos) (rdS w W sRetN) := by
  refine PS.imp ps_retN fun D σ H ⟨g, ρ, S, rel, h⟩ => ?_
  exact h .non H ⟨g, .refl _ _, rel.sto, rel.nd, rel.sep, rel.trk, rel.sez, .non⟩
/-- one's own box is handed back by its name -/
def sRetV (i : Nat) : SS := fun ρ S => match ρ[i]? with
  | some (some (d, .own)) => .rt (d, .own) S
  | some (some (d, .sh)) => .rt (d, .sh) S
  | some (some (d, .bor)) => if box d = false then .rt (d, .sh) S else .bad
  | _ => .bad
theorem st_retV (i : Nat) {x : Str} {p pos : Pos} (hN : X.N[i]? = some x) (hv : Vis X.env.scope x) (hd : (x == ("__debug__" : Str)) = false) (hcd : (x == ("__classdict__" : Str)) = false) : PS X (.Return (some (.Name x p)) pos) (rdS w W (sRetV i)) := by
  refine PS.imp (ps_ret (pe_var hN hv hd hcd)) fun D σ H ⟨g, ρ, S, rel, h⟩ => ?_
  unfold sRetV at h
  cases e : ρ[i]? with
  | none => rw [e] at h; exact h.elim
  | some o =>
    cases o with
    | none => rw [e] at h; exact h.elim
    | some r =>
      obtain ⟨d, fl⟩ := r
      obtain ⟨v, hv, held⟩ := rel.loc i d fl e
      refine ⟨v, hv, ?_⟩
      rw [e] at h
      cases fl with
      | sh => exact h v H ⟨g, .refl _ _, rel.sto, rel.nd, rel.sep, rel.trk, rel.sez, held⟩
      | bor =>
        dsimp only at h
        split at h
        · rename_i c
          exact h v H ⟨g, .refl _ _, rel.sto, rel.nd, rel.sep, rel.trk, rel.sez, Read.rep (Lent.read held) c⟩
        · exact h.elim
      | mine => exact h.elim
      | own =>
        obtain ⟨a, rfl, b, z, n⟩ := held
        exact h _ H ⟨g, .refl _ _, rel.sto, rel.nd, rel.sep, rel.trk, rel.sez, a, rfl, n, b, z⟩
def sIfS (t : ST) (a b : SS) : SS := fun ρ S => goS (t ρ S) ρ fun c S1 => if c = true then a ρ S1 else b ρ S1
theorem st_if {c : Expr} {a b : List Stmt} {t : ST} {s u : SS} {pos : Pos} (hc : PT X c (rdT w W t)) (ha : PSs X a (rdS w W s)) (hb : PSs X b (rdS w W u)) : PS X (.If c a b pos) (rdS w W (sIfS t s u)) := by
  refine PS.imp (ps_if hc ha hb) fun D σ H ⟨g, ρ, S, rel, h⟩ => ?_
  refine rdT_imp (bindT rel h goodS) fun k H1 ⟨S1, m1, s1, rel1, _, h1⟩ => ?_
  cases k with
  | true => exact ⟨g.at m1, ρ, S1, rel1, h1⟩
  | false => exact ⟨g.at m1, ρ, S1, rel1, h1⟩

/-! ### names stored -/
theorem Rel.set {g : G} {ρ : Loc} {S : Store} {σ : St} {H : Hp} {i : Nat} {d : D} {v : V} (rel : Rel w g ρ S σ H) (h : Rep w g.m g.Z H d v) : Rel w g (ρ.set i (some (d, .sh))) S (σ.set i (some v)) H where
  len := by rw [List.length_set, List.length_set]; exact rel.len
  loc := fun j e fl q => by
    by_cases hj : i = j
    · subst hj
      by_cases hi : i < ρ.length
      · rw [List.getElem?_set_self hi] at q
        cases q
        exact ⟨v, by rw [List.getElem?_set_self (by rw [rel.len]; exact hi)], h⟩
      · rw [List.getElem?_eq_none (by simpa using hi)] at q; cases q
    · rw [List.getElem?_set_ne hj] at q
      rw [List.getElem?_set_ne hj]
      exact rel.loc j e fl q
  inj := fun j k e f a q1 q2 p1 p2 => by
    have nj : i ≠ j := fun z => by
      subst z
      by_cases hi : i < ρ.length
      · rw [List.getElem?_set_self hi] at q1; cases q1
      · rw [List.getElem?_eq_none (by simpa using hi)] at q1; cases q1
    have nk : i ≠ k := fun z => by
      subst z
      by_cases hi : i < ρ.length
      · rw [List.getElem?_set_self hi] at q2; cases q2
      · rw [List.getElem?_eq_none (by simpa using hi)] at q2; cases q2
    rw [List.getElem?_set_ne nj] at q1 p1
    rw [List.getElem?_set_ne nk] at q2 p2
    exact rel.inj j k e f a q1 q2 p1 p2
  sto := rel.sto
  nd := rel.nd
  sep := rel.sep
  sez := rel.sez
  trk := rel.trk
  slf := fun x e hx q => by
    by_cases hi : i = 0
    · subst hi
      by_cases hl : 0 < ρ.length
      · rw [List.getElem?_set_self hl] at q; cases q
      · rw [List.getElem?_eq_none (by simpa using hl)] at q; cases q
    · rw [List.getElem?_set_ne hi] at q
      rw [List.getElem?_set_ne hi]
      exact rel.slf x e hx q
/-- a name that holds one's own box from now on -/
theorem Rel.setOwn {g : G} {ρ : Loc} {S S1 : Store} {σ : St} {H H1 : Hp} {m1 : List Addr} {i : Nat} {d : D} {a : Addr} (hi0 : i ≠ 0) (rel : Rel w g ρ S σ H) (s1 : StepE g.m H m1 H1) (rel1 : Rel w (g.at m1) ρ S1 σ H1) (hn : H a = none) (nm : a ∉ m1) (nz : ¬ g.Z a)
    (b : BoxW w m1 (fun c => g.Z c ∨ c = a) H1 d a) (sto : Stored w m1 (fun c => g.Z c ∨ c = a) H1 S1) : Rel w (g.own m1 a) (ρ.set i (some (d, .own))) S1 (σ.set i (some (.ref a))) H1 := by
  have lz : ∀ c, (g.own m1 a).Z c → (fun c => g.Z c ∨ c = a) c ∨ H1 c = none := fun c h => .inl ((G.own_Z c).mp h)
  have ha : H1 a ≠ none := b.ne
  have M0 : Mono g.m g.Z H g.m (g.own m1 a).Z H := mono_z fun c h => ((G.own_Z c).mp h).imp id fun q => by rw [q]; exact hn
  have M1 : Mono g.m (g.own m1 a).Z H m1 (g.own m1 a).Z H1 := s1.mono fun _ q => q
  have own_ne : ∀ (j : Nat) e, ρ[j]? = some (some (e, .own)) → σ[j]? ≠ some (some (.ref a)) := fun j e q p => by
    obtain ⟨u, p2, a2, hu, b2, _⟩ := rel.loc j e .own q
    rw [p] at p2
    cases p2
    cases hu
    exact b2.ne hn
  refine ⟨by rw [List.length_set, List.length_set]; exact rel.len, fun j e fl q => ?_, fun j k e f c q1 q2 p1 p2 => ?_, sto.less lz, rel1.nd, fun c hc z => ?_, fun c hc => ?_, fun c hc => ?_, fun x e hx q => by rw [List.getElem?_set_ne hi0] at q ⊢; exact rel.slf x e hx q⟩
  · by_cases hj : i = j
    · subst hj
      by_cases hi : i < ρ.length
      · rw [List.getElem?_set_self hi] at q
        cases q
        exact ⟨.ref a, by rw [List.getElem?_set_self (by rw [rel.len]; exact hi)], a, rfl, b.less lz, List.mem_cons_self, nm⟩
      · rw [List.getElem?_eq_none (by simpa using hi)] at q; cases q
    · rw [List.getElem?_set_ne hj] at q
      rw [List.getElem?_set_ne hj]
      obtain ⟨u, hu, held⟩ := rel.loc j e fl q
      refine ⟨u, hu, ?_⟩
      cases fl with
      | sh => exact (Rep.mono M0 held).mono M1
      | mine => exact held.elim
      | bor =>
        refine s1.lent (g := g.own g.m a) ?_
        rcases held with held | ⟨c, e1, bx, n1, z1⟩
        · exact .inl (held.mono M0)
        · have ne : c ≠ a := fun z => bx.ne (by rw [z]; exact hn)
          refine .inr ⟨c, e1, ?_, n1, fun q => (List.mem_cons.mp q).elim ne z1⟩
          cases bx with
          | lst h r => exact .lst h (r.mono M0)
          | dk h r => exact .dk h (r.mono M0)
          | dt h r => exact .dt h (r.mono M0)
          | ins h r => exact .ins h (r.mono M0)
      | own =>
        obtain ⟨c, e1, bx, zc, n1⟩ := held
        refine ⟨c, e1, s1.boxW (Z := (g.own m1 a).Z) ?_ n1, List.mem_cons_of_mem _ zc, s1.notm bx.ne n1⟩
        cases bx with
        | lst h r => exact .lst h (r.mono M0)
        | dk h r => exact .dk h (r.mono M0)
        | dt h r => exact .dt h (r.mono M0)
        | ins h r => exact .ins h (r.mono M0)
  · by_cases hj : i = j
    · by_cases hk : i = k
      · rw [← hj, ← hk]
      · subst hj
        rw [List.getElem?_set_ne hk] at q2 p2
        by_cases hi : i < σ.length
        · rw [List.getElem?_set_self hi] at p1
          cases p1
          exact absurd p2 (own_ne k f q2)
        · rw [List.getElem?_eq_none (by simpa using hi)] at p1; cases p1
    · by_cases hk : i = k
      · subst hk
        rw [List.getElem?_set_ne hj] at q1 p1
        by_cases hi : i < σ.length
        · rw [List.getElem?_set_self hi] at p2
          cases p2
          exact absurd p1 (own_ne j e q1)
        · rw [List.getElem?_eq_none (by simpa using hi)] at p2; cases p2
      · rw [List.getElem?_set_ne hj] at q1 p1
        rw [List.getElem?_set_ne hk] at q2 p2
        exact rel.inj j k e f c q1 q2 p1 p2
  · rcases (G.own_Z c).mp z with z | rfl
    · exact rel1.sep c hc z
    · exact nm hc
  · rcases List.mem_cons.mp hc with rfl | hc
    · exact fun q => nz (.inr q)
    · exact rel.sez c hc
  · rcases hc with hc | hc
    · exact rel1.trk c (.inl hc)
    · rcases (G.own_Z c).mp hc with z | rfl
      · exact rel1.trk c (.inr z)
      · exact ha
/-- name = value, anyone's; name = a new box of one's own -/
def sSet (i : Nat) (f : SE) : SS := fun ρ S => goS (f ρ S) ρ fun r S1 => if leakOk r = true then .nx (ρ.set i (some (r.1, .sh))) S1 else .bad
def sOwn (i : Nat) (f : SE) : SS := fun ρ S => goS (f ρ S) ρ fun r S1 => if r.2 = .own then .nx (ρ.set i (some (r.1, .own))) S1 else .bad
theorem rd_set {i : Nat} {f : SE} {D : Ends} {σ : St} {H : Hp} (h : rdS w W (sSet i f) D σ H) : tAsg (rdE w W f) (gName i) D σ H := by
  obtain ⟨g, ρ, S, rel, h⟩ := h
  refine rdE_imp (bindE rel h goodS) fun v H1 ⟨r1, S1, m1, s1, rel1, res1, _, h1⟩ => ?_
  split at h1
  · rename_i c
    exact h1 _ _ ⟨g.at m1, .refl _ _, rel1.set (res1.arg.rep c)⟩
  · exact h1.elim
theorem rd_own {i : Nat} {f : SE} {D : Ends} {σ : St} {H : Hp} (hi : i ≠ 0) (h : rdS w W (sOwn i f) D σ H) : tAsg (rdE w W f) (gName i) D σ H := by
  obtain ⟨g, ρ, S, rel, h⟩ := h
  refine rdE_imp (bindE0 rel h goodS) fun v H1 ⟨r1, S1, m1, s1, rel1, res1, h1⟩ => ?_
  obtain ⟨d, fl⟩ := r1
  split at h1
  · rename_i c
    cases c
    obtain ⟨a, rfl, hn, nm, nz, b, sto⟩ := res1
    exact h1 _ _ ⟨g.own m1 a, .own s1 hn, Rel.setOwn hi rel s1 rel1 hn nm nz b sto⟩
  · exact h1.elim
/-- a name of the def that may be stored -/
structure Sto (X : Cx) (i : Nat) (x : Str) : Prop where
  nd : X.N.Nodup
  at_ : X.N[i]? = some x
  loc : L2.Loc X.env.scope x
  hf : X.fn x = true ∨ X.env.scope.names.lookup x = some .local
theorem st_set {i : Nat} {x : Str} {e : Expr} {f : SE} {p pos : Pos} (o : Sto X i x) (hs : swapsWith e (some (.Name x p)) pos.line X.env = pure false) (he : PE X e (rdE w W f)) : PS X (.Assign [.Name x p] e pos) (rdS w W (sSet i f)) :=
  PS.imp (ps_set o.nd o.at_ o.loc he hs o.hf) fun _ _ _ h => rd_set h
theorem st_own {i : Nat} {x : Str} {e : Expr} {f : SE} {p pos : Pos} (hi : i ≠ 0) (o : Sto X i x) (hs : swapsWith e (some (.Name x p)) pos.line X.env = pure false) (he : PE X e (rdE w W f)) : PS X (.Assign [.Name x p] e pos) (rdS w W (sOwn i f)) :=
  PS.imp (ps_set o.nd o.at_ o.loc he hs o.hf) fun _ _ _ h => rd_own hi h
end
end DL

set_option maxRecDepth 100000
/-! The value layer: targets, while, for. -/
namespace DL
open PySem L2

/-- all values stay over a statement's step -/
theorem StepS.mono {g g' : G} {H H' : Hp} (s : StepS g H g' H') : Mono g.m g.Z H g'.m g'.Z H' := by
  have nm : ∀ a, H a ≠ none → a ∉ g.m → a ∉ g'.m := fun a h n q => by
    obtain ⟨ex, e, hx⟩ := s.ms
    rw [e] at q
    rcases List.mem_append.mp q with q | q
    · exact n q
    · exact h (hx _ q)
  have nz : ∀ a, H a ≠ none → ¬ g.Z a → ¬ g'.Z a := fun a h n q => by
    rcases q with q | q
    · rcases s.zo a q with q | q
      · exact n (.inl q)
      · exact h q
    · rw [s.zb] at q
      exact n (.inr q)
  have kp : ∀ a o, H a = some o → ¬ g.Z a → a ∉ g.m → (∀ ps, o ≠ .tbl ps) → H' a = some o := fun a o h z n t => s.keep a o h (.inl ⟨n, fun q => z (.inl q)⟩) t
  exact {
    tup := fun a xs h => s.keep _ _ h (.inr (.inl ⟨_, rfl⟩)) (fun _ q => by cases q)
    box := fun a u hb h z n => by
      refine ⟨?_, nz a (rd_ne h) z, nm a (rd_ne h) n⟩
      rcases h with h | ⟨o, h⟩
      · exact .inl (kp a _ h z n (boxO_tbl hb))
      · exact .inr ⟨o, kp a _ h z n (fun _ q => by cases q)⟩
    exa := fun a o ho h z n => ⟨kp a _ h z n (exO_tbl ho), nz a (by rw [h]; simp) z, nm a (by rw [h]; simp) n⟩
    frl := fun a o xs h => s.keep _ _ h (.inr (.inr (.inr (.inr ⟨_, _, rfl⟩)))) (fun _ q => by cases q)
    exc := fun a cls d h => s.keep _ _ h (.inr (.inr (.inl ⟨_, _, rfl⟩))) (fun _ q => by unfold ExcO at q; cases q)
    xd := fun a gs h => s.keep _ _ h (.inr (.inr (.inr (.inl ⟨_, rfl⟩)))) (fun _ q => by cases q)
    obj := fun n a h => by
      obtain ⟨ex, e, _⟩ := s.ms
      rw [e, List.getElem?_append_left (List.getElem?_eq_some_iff.mp h).1]
      exact h }

/-- .. beside others that are kept off -/
theorem Mono.ex {m m' : List Addr} {Z Z' : Addr → Prop} {H H' : Hp} (M : Mono m Z H m' Z' H') (P : Addr → Prop) : Mono m (fun b => Z b ∨ P b) H m' (fun b => Z' b ∨ P b) H' where
  tup := M.tup
  box := fun a u hb h z n => let ⟨x, y, k⟩ := M.box a u hb h (fun q => z (.inl q)) n; ⟨x, fun q => q.elim y fun q => z (.inr q), k⟩
  exa := fun a o ho h z n => let ⟨x, y, k⟩ := M.exa a o ho h (fun q => z (.inl q)) n; ⟨x, fun q => q.elim y fun q => z (.inr q), k⟩
  frl := M.frl
  exc := M.exc
  xd := M.xd
  obj := M.obj
section
variable {w : Wd} {W : WX} {X : Cx}
/-! ### targets -/
abbrev Tgt := D → Loc → Option Loc
/-- two frames are alike but at the slots ns -/
def But (ns : List Nat) (σ σ' : St) : Prop := σ'.length = σ.length ∧ ∀ j, j ∉ ns → σ'[j]? = σ[j]?
def rdG (w : Wd) (ns : List Nat) (f : Tgt) : TG := fun v σ H Q => ∃ g ρ S d ρ', Rel w g ρ S σ H ∧ Rep w g.m g.Z H d v ∧ f d ρ = some ρ' ∧ ∀ σ', Rel w g ρ' S σ' H → But ns σ σ' → Q σ' H
abbrev Tgts := List D → Loc → Option Loc
def rdGs (w : Wd) (ns : List Nat) (f : Tgts) : TGs := fun vs σ H Q => ∃ g ρ S ds ρ', Rel w g ρ S σ H ∧ Reps w g.m g.Z H ds vs ∧ f ds ρ = some ρ' ∧ ∀ σ', Rel w g ρ' S σ' H → But ns σ σ' → Q σ' H
theorem PG.imp {e : Expr} {t t' : TG} (h : PG X e t) (i : ∀ v σ H Q, t' v σ H Q → t v σ H Q) : PG X e t' := ⟨fun pins s σ H v u Q I r q => h.run pins s σ H v u Q I r (i _ _ _ _ q)⟩
theorem PGs.imp {e : List Expr} {t t' : TGs} (h : PGs X e t) (i : ∀ v σ H Q, t' v σ H Q → t v σ H Q) : PGs X e t' := ⟨fun pins s σ H v u Q I r q => h.run pins s σ H v u Q I r (i _ _ _ _ q)⟩
def gNm (i : Nat) : Tgt := fun d ρ => some (ρ.set i (some (d, .sh)))
def gNo : Tgts := fun ds ρ => match ds with
  | [] => some ρ
  | _ => none
def gAnd (t : Tgt) (ts : Tgts) : Tgts := fun ds ρ => match ds with
  | d :: r => (t d ρ).bind fun ρ1 => ts r ρ1
  | [] => none
def gTp (n : Nat) (ts : Tgts) : Tgt := fun d ρ => match d with
  | .tup ds => if ds.length = n then ts ds ρ else none
  | _ => none
theorem g_nm {i : Nat} {x : Str} {p : Pos} (o : Sto X i x) : PG X (.Name x p) (rdG w [i] (gNm i)) := by
  refine PG.imp (pg_name o.nd o.at_ o.loc o.hf) fun v σ H Q ⟨g, ρ, S, d, ρ', rel, r, e, h⟩ => ?_
  cases e
  exact h _ (rel.set r) ⟨List.length_set, fun j q => List.getElem?_set_ne fun z => q (by rw [z]; exact List.mem_cons_self)⟩
theorem g_no : PGs X [] (rdGs w [] gNo) := by
  refine PGs.imp pgs_nil fun v σ H Q ⟨g, ρ, S, ds, ρ', rel, r, e, h⟩ => ?_
  cases r with
  | nil => cases e; exact ⟨rfl, h _ rel ⟨rfl, fun _ _ => rfl⟩⟩
  | cons _ _ => cases e
theorem g_and {e : Expr} {es : List Expr} {ns ks : List Nat} {t : Tgt} {ts : Tgts} (hs : (assignEach (e :: es) X.env).map (·.2) = assign e X.env :: (assignEach es X.env).map (·.2)) (h1 : PG X e (rdG w ns t)) (h2 : PGs X es (rdGs w ks ts)) : PGs X (e :: es) (rdGs w (ns ++ ks) (gAnd t ts)) := by
  refine PGs.imp (pgs_cons h1 h2 hs) fun v σ H Q ⟨g, ρ, S, ds, ρ', rel, r, e, h⟩ => ?_
  cases r with
  | nil => cases e
  | cons r rs =>
    obtain ⟨ρ1, e1, e2⟩ := Option.bind_eq_some_iff.mp e
    exact ⟨_, _, rfl, g, ρ, S, _, ρ1, rel, r, e1, fun σ1 rel1 b1 => ⟨g, ρ1, S, _, ρ', rel1, rs, e2, fun σ2 rel2 b2 => h σ2 rel2 ⟨b2.1.trans b1.1, fun j q => (b2.2 j fun z => q (List.mem_append_right _ z)).trans (b1.2 j fun z => q (List.mem_append_left _ z))⟩⟩⟩
theorem g_tp {es : List Expr} {k : Nat} {p : Pos} {n : Nat} {ns : List Nat} {ts : Tgts} (hK : X.K = w.K) (hc : X.calm = true) (hn : (assignEach es X.env).length = n) (hst : (assignEach es X.env).findIdx? (·.1) = none) (h : PGs X es (rdGs w ns ts)) : PG X (.Tuple es k p) (rdG w ns (gTp n ts)) := by
  refine PG.imp (pg_tup (n := n) hc h hn hst) fun v σ H Q ⟨g, ρ, S, d, ρ', rel, r, e, h⟩ => ?_
  unfold gTp at e
  split at e
  · rename_i ds
    split at e
    · rename_i c
      obtain ⟨a, vs, rfl, ht, rs⟩ := Look.tup (.inl r)
      exact ⟨a, vs, rfl, hK ▸ ht, by rw [← rs.length]; exact c, g, ρ, S, ds, ρ', rel, rs, e, h⟩
    · cases e
  · cases e
/-- target = value -/
def sAsg (t : Tgt) (f : SE) : SS := fun ρ S => goS (f ρ S) ρ fun r S1 => if leakOk r = true then match t r.1 ρ with
    | some ρ' => .nx ρ' S1
    | none => .bad
  else .bad
theorem rd_asg {ns : List Nat} {t : Tgt} {f : SE} {D : Ends} {σ : St} {H : Hp} (h : rdS w W (sAsg t f) D σ H) : tAsg (rdE w W f) (rdG w ns t) D σ H := by
  obtain ⟨g, ρ, S, rel, h⟩ := h
  refine rdE_imp (bindE rel h goodS) fun v H1 ⟨r1, S1, m1, s1, rel1, res1, _, h1⟩ => ?_
  split at h1
  · rename_i c
    split at h1
    · rename_i ρ' e
      exact ⟨g.at m1, ρ, S1, r1.1, ρ', rel1, res1.arg.rep c, e, fun σ' rel' _ => h1 σ' H1 ⟨g.at m1, .refl _ _, rel'⟩⟩
    · exact h1.elim
  · exact h1.elim
theorem st_asg {tg e : Expr} {ns : List Nat} {t : Tgt} {f : SE} {pos : Pos} (hs : swapsWithSole [tg] e pos.line X.env = pure false) (hw : swappedStores [tg] e X.env = pure none) (h1 : (assignEach [tg] X.env).map (·.2) = [assign tg X.env]) (hg : PG X tg (rdG w ns t)) (he : PE X e (rdE w W f)) :
    PS X (.Assign [tg] e pos) (rdS w W (sAsg t f)) := PS.imp (ps_asg he hg hs hw h1) fun _ _ _ h => rd_asg h
/-- a, b = x, y -/
def sPar (i j : Nat) (fs : SA) : SS := fun ρ S => goS (fs ρ S) ρ fun rs S1 => match rs with
  | [r, q] => if leakOk r = true ∧ leakOk q = true then .nx ((ρ.set i (some (r.1, .sh))).set j (some (q.1, .sh))) S1 else .bad
  | _ => .bad
theorem st_par {i j : Nat} {x y : Str} {a b : Expr} {fs : SA} {px py pt pos : Pos} {kt k2 pt2} (hc : X.calm = true) (ox : Sto X i x) (oy : Sto X j y) (hij : i ≠ j) (hx : X.env.scope.names.lookup x = some .local) (hy : X.env.scope.names.lookup y = some .local)
    (hw : swappedStores [.Tuple [.Name x px, .Name y py] kt pt] (.Tuple [a, b] k2 pt2) X.env = pure (some [x, y])) (hs : swapsWithSole [.Tuple [.Name x px, .Name y py] kt pt] (.Tuple [a, b] k2 pt2) pos.line X.env = pure false)
    (ha : PA X [a, b] (rdA w W fs)) : PS X (.Assign [.Tuple [.Name x px, .Name y py] kt pt] (.Tuple [a, b] k2 pt2) pos) (rdS w W (sPar i j fs)) := by
  refine PS.imp (ps_par hc ox.nd ox.at_ oy.at_ hij hx hy ha hw hs) fun D σ H ⟨g, ρ, S, rel, h⟩ => ?_
  refine rdA_imp (bindA rel h goodS) fun vs H1 ⟨rs, S1, m1, s1, rel1, as, _, h1⟩ => ?_
  cases as with
  | nil => exact h1.elim
  | cons r t =>
    cases t with
    | nil => exact h1.elim
    | cons q t =>
      cases t with
      | cons _ _ => exact h1.elim
      | nil =>
        dsimp only at h1
        split at h1
        · rename_i c
          exact ⟨_, _, rfl, h1 _ _ ⟨g.at m1, .refl _ _, (rel1.set (r.rep c.1)).set (q.rep c.2)⟩⟩
        · exact h1.elim

/-! ### while -/
def whileI (t : ST) (b : SS) : Nat → Loc → Store → O
  | 0, _, _ => .bad
  | n + 1, ρ, S => goS (t ρ S) ρ fun c S1 => if c = true then match b ρ S1 with
      | .nx ρ2 S2 => whileI t b n ρ2 S2
      | .ct ρ2 S2 => whileI t b n ρ2 S2
      | .bk ρ2 S2 => .nx ρ2 S2
      | o => o
    else .nx ρ S1
open Classical in
noncomputable def sWhile (t : ST) (b : SS) : SS := fun ρ S => if h : ∃ n, whileI t b n ρ S ≠ .bad then whileI t b h.choose ρ S else .bad
theorem whileI_more {t : ST} {b : SS} : ∀ {n : Nat} {ρ : Loc} {S : Store}, whileI t b n ρ S ≠ .bad → whileI t b (n + 1) ρ S = whileI t b n ρ S
  | 0, _, _, h => absurd rfl h
  | n + 1, ρ, S, h => by
    rw [whileI] at h ⊢
    rw [whileI]
    cases e : t ρ S with
    | exc x S1 => rfl
    | bad => rfl
    | ok c S1 =>
      rw [e] at h
      simp only [goS, R.go] at h ⊢
      cases c with
      | false => rfl
      | true =>
        simp only [if_true] at h ⊢
        cases e2 : b ρ S1 with
        | nx ρ2 S2 => rw [e2] at h; exact whileI_more (n := n) h
        | ct ρ2 S2 => rw [e2] at h; exact whileI_more (n := n) h
        | rt r S2 => rfl
        | bk ρ2 S2 => rfl
        | ex x ρ2 S2 => rfl
        | bad => rfl
theorem whileI_le {t : ST} {b : SS} {n k : Nat} {ρ : Loc} {S : Store} (h : whileI t b n ρ S ≠ .bad) (hk : n ≤ k) : whileI t b k ρ S = whileI t b n ρ S := by
  induction hk with
  | refl => rfl
  | step _ ih => rw [whileI_more (by rw [ih]; exact h), ih]
theorem sWhile_of {t : ST} {b : SS} {n : Nat} {ρ : Loc} {S : Store} (h : whileI t b n ρ S ≠ .bad) : sWhile t b ρ S = whileI t b n ρ S := by
  have hx : ∃ n, whileI t b n ρ S ≠ .bad := ⟨n, h⟩
  unfold sWhile
  rw [dif_pos hx]
  rcases Nat.le_total hx.choose n with l | l
  · exact (whileI_le hx.choose_spec l).symm
  · exact whileI_le h l
/-- the loop, one turn opened -/
theorem sWhile_eq {t : ST} {b : SS} {ρ : Loc} {S : Store} : sWhile t b ρ S = goS (t ρ S) ρ fun c S1 => if c = true then match b ρ S1 with
      | .nx ρ2 S2 => sWhile t b ρ2 S2
      | .ct ρ2 S2 => sWhile t b ρ2 S2
      | .bk ρ2 S2 => .nx ρ2 S2
      | o => o
    else .nx ρ S1 := by
  have key : ∀ ρ2 S2, (∀ n, whileI t b n ρ2 S2 = .bad) → sWhile t b ρ2 S2 = .bad := fun ρ2 S2 h => by
    unfold sWhile
    rw [dif_neg fun ⟨n, q⟩ => q (h n)]
  cases e : t ρ S with
  | exc x S1 => rw [sWhile_of (n := 1) (by rw [whileI, e]; simp [goS, R.go]), whileI, e]; rfl
  | bad => exact key _ _ fun n => by cases n with | zero => rfl | succ n => rw [whileI, e]; rfl
  | ok c S1 =>
    cases c with
    | false => rw [sWhile_of (n := 1) (by rw [whileI, e]; simp [goS, R.go]), whileI, e]; rfl
    | true =>
      simp only [goS, R.go, if_true]
      have one : ∀ n, whileI t b (n + 1) ρ S = match b ρ S1 with
          | .nx ρ2 S2 => whileI t b n ρ2 S2
          | .ct ρ2 S2 => whileI t b n ρ2 S2
          | .bk ρ2 S2 => .nx ρ2 S2
          | o => o := fun n => by rw [whileI, e]; rfl
      cases e2 : b ρ S1 with
      | nx ρ2 S2 =>
        rw [e2] at one
        by_cases hx : ∃ n, whileI t b n ρ2 S2 ≠ .bad
        · obtain ⟨n, hn⟩ := hx
          rw [sWhile_of (n := n + 1) (by rw [one]; exact hn), one]
          exact (sWhile_of hn).symm
        · have hb : ∀ n, whileI t b n ρ2 S2 = .bad := fun n => Classical.byContradiction fun q => hx ⟨n, q⟩
          rw [key _ _ fun n => by cases n with | zero => rfl | succ n => rw [one]; exact hb n]
          exact (key _ _ hb).symm
      | ct ρ2 S2 =>
        rw [e2] at one
        by_cases hx : ∃ n, whileI t b n ρ2 S2 ≠ .bad
        · obtain ⟨n, hn⟩ := hx
          rw [sWhile_of (n := n + 1) (by rw [one]; exact hn), one]
          exact (sWhile_of hn).symm
        · have hb : ∀ n, whileI t b n ρ2 S2 = .bad := fun n => Classical.byContradiction fun q => hx ⟨n, q⟩
          rw [key _ _ fun n => by cases n with | zero => rfl | succ n => rw [one]; exact hb n]
          exact (key _ _ hb).symm
      | rt r S2 => rw [e2] at one; rw [sWhile_of (n := 1) (by rw [one]; simp), one]
      | bk ρ2 S2 => rw [e2] at one; rw [sWhile_of (n := 1) (by rw [one]; simp), one]
      | ex x ρ2 S2 => rw [e2] at one; rw [sWhile_of (n := 1) (by rw [one]; simp), one]
      | bad => rw [e2] at one; exact key _ _ fun n => by cases n with | zero => rfl | succ n => rw [one]
theorem st_while {c : Expr} {body : List Stmt} {t : ST} {b : SS} {pos : Pos} (hp : PassesOwn (model X.prog X.w) X.A X.env X.xe) (hc : PT X c (rdT w W t)) (hb : PSs X body (rdS w W b)) : PS X (.While c body [] pos) (rdS w W (sWhile t b)) := by
  refine PS.imp (ps_while hp hc hb) fun D σ H ⟨g, ρ, S, rel, h⟩ => ?_
  have hx : ∃ n, whileI t b n ρ S ≠ .bad := Classical.byContradiction fun q => by
    unfold sWhile at h
    rw [dif_neg q] at h
    exact h
  obtain ⟨n, hn⟩ := hx
  rw [sWhile_of hn] at h
  refine ⟨fun m σ H => ∃ g ρ S, Rel w g ρ S σ H ∧ PostS w W D g H (whileI t b m ρ S), ⟨n, g, ρ, S, rel, h⟩, ?_⟩
  rintro m σ H ⟨g, ρ, S, rel, h⟩
  cases m with
  | zero => exact h.elim
  | succ m =>
    rw [whileI] at h
    refine rdT_imp (bindT rel h goodS) fun k H1 ⟨S1, m1, s1, rel1, _, h1⟩ => ?_
    cases k with
    | false => exact h1 σ H1 ⟨g.at m1, .refl _ _, rel1⟩
    | true =>
      refine ⟨fun σ' H' => ∃ g ρ S, Rel w g ρ S σ' H' ∧ PostS w W D g H' (whileI t b m ρ S), fun σ' H' q => ⟨m, Nat.lt_succ_self m, q⟩, g.at m1, ρ, S1, rel1, ?_⟩
      have h1' : PostS w W D (g.at m1) H1 (match b ρ S1 with
          | .nx ρ2 S2 => whileI t b m ρ2 S2
          | .ct ρ2 S2 => whileI t b m ρ2 S2
          | .bk ρ2 S2 => .nx ρ2 S2
          | o => o) := h1
      cases e2 : b ρ S1 with
      | nx ρ2 S2 => rw [e2] at h1'; exact fun σ' H' ⟨g', a, r⟩ => ⟨g', ρ2, S2, r, h1'.step a⟩
      | ct ρ2 S2 => rw [e2] at h1'; exact fun σ' H' ⟨g', a, r⟩ => ⟨g', ρ2, S2, r, h1'.step a⟩
      | rt r S2 => rw [e2] at h1'; exact h1'
      | bk ρ2 S2 => rw [e2] at h1'; exact h1'
      | ex x ρ2 S2 => rw [e2] at h1'; exact h1'
      | bad => rw [e2] at h1'; exact h1'
end
end DL

set_option maxRecDepth 100000
/-! The value layer: what is walked; for. -/
namespace DL
open PySem L2

/-- the walk J, begun at g and H, gives ds one after another -/
structure Walk (w : Wd) (g : G) (H : Hp) (J : It) (ds : List D) : Prop where
  go : ∀ i g' H', i < ds.length → StepS g H g' H' → J.go i H'
  yl : ∀ i g' H' x Hx, StepS g H g' H' → J.yld i H' x Hx → (Hx = H' ∨ ∃ p t, H' p = none ∧ Hx = upd H' p (.tup t)) ∧ ∀ d, ds[i]? = some d → ∀ P : Addr → Prop, (∀ b, P b → H b = none) → Rep w g'.m (fun b => g'.Z b ∨ P b) Hx d x
  st : ∀ i g' H', ds.length ≤ i → StepS g H g' H' → J.stop i H'
section
variable {w : Wd} {W : WX} {X : Cx}
abbrev SI := Loc → Store → R (List D)
def PostI (w : Wd) (W : WX) (ρ : Loc) (σ : St) (Q : It → Hp → Prop) (g : G) (H : Hp) (t : R (List D)) : Prop := match t with
  | .ok ds S' => ∀ J H', (∃ m', StepE g.m H m' H' ∧ Rel w (g.at m') ρ S' σ H' ∧ Walk w (g.at m') H' J ds) → Q J H'
  | .exc x S' => ∀ cls dd H', XOk w g H ρ σ x S' cls dd H' → W cls dd σ H'
  | .bad => False
theorem goodI {ρ : Loc} {σ : St} {Q : It → Hp → Prop} : Good w W ρ σ R.exc R.bad (PostI w W ρ σ Q) where
  step := fun g H m1 H1 t s p => by
    cases t with
    | ok r S => exact fun J H' ⟨m', a, b⟩ => p J H' ⟨m', s.trans a, b⟩
    | exc x S => exact fun cls dd H' q => p cls dd H' (q.trans s)
    | bad => exact p
  exc := fun _ _ _ _ p => p
  bad := fun _ _ p => p
def rdI (w : Wd) (W : WX) (f : SI) : TI := fun σ H Q => ∃ g ρ S, Rel w g ρ S σ H ∧ PostI w W ρ σ Q g H (f ρ S)
theorem PI.imp {tg e : Expr} {t t' : TI} (h : PI X tg e t) (i : ∀ σ H R, t' σ H R → t σ H R) : PI X tg e t' := ⟨fun pins s σ H R I q => h.run pins s σ H R I (i _ _ _ q)⟩
theorem PI.or {tg e : Expr} {t t' : TI} (h : PI X tg e t) (h' : PI X tg e t') : PI X tg e (fun σ H R => t σ H R ∨ t' σ H R) := ⟨fun pins s σ H R I q => q.elim (h.run pins s σ H R I) (h'.run pins s σ H R I)⟩
theorem bindI {ρ : Loc} {σ : St} {T : Type} {ex : D → Store → T} {bd : T} {P : G → Hp → T → Prop} {g : G} {S : Store} {H : Hp} {f : SI} {k : List D → Store → T} (rel : Rel w g ρ S σ H) (h : P g H ((f ρ S).go ex bd k)) (gd : Good w W ρ σ ex bd P) :
    rdI w W f σ H fun J H1 => ∃ ds S1 m1, StepE g.m H m1 H1 ∧ Rel w (g.at m1) ρ S1 σ H1 ∧ Walk w (g.at m1) H1 J ds ∧ P g H (k ds S1) := by
  refine ⟨g, ρ, S, rel, ?_⟩
  cases e : f ρ S with
  | ok r S1 =>
    rw [e] at h
    exact fun J H1 ⟨m1, s, r', wk⟩ => ⟨r, S1, m1, s, r', wk, h⟩
  | exc x S1 => rw [e] at h; exact gd.exc _ _ _ _ h
  | bad => rw [e] at h; exact gd.bad _ _ h
theorem rdI_imp {f : SI} {σ : St} {H : Hp} {Q Q' : It → Hp → Prop} (h : rdI w W f σ H Q) (i : ∀ v H', Q v H' → Q' v H') : rdI w W f σ H Q' := by
  obtain ⟨g, ρ, S, r, h⟩ := h
  refine ⟨g, ρ, S, r, ?_⟩
  cases e : f ρ S with
  | ok r S' => rw [e] at h; exact fun v H' q => i v H' (h v H' q)
  | exc x S' => rw [e] at h; exact h
  | bad => rw [e] at h; exact h

/-! ### sequences -/
def signs (x : String) : List D := x.toList.map fun c => .str (String.singleton c)
def seqOf (r : RV) : Option (List D) := match r.1 with
  | .lst ds => if r.2 = .mine then none else some ds
  | .tup ds => some ds
  | .frl ds => some ds
  | .str x => some (signs x)
  | _ => none
def sSeqI (f : SE) : SI := fun ρ S => (f ρ S).bind fun r S1 => match seqOf r with
  | some ds => .ok ds S1
  | none => .bad
theorem walk_list {g : G} {H : Hp} {a : Addr} {ds : List D} {vs : List V} {K : PySem.W.Frag} (hl : H a = some (.lst vs)) (r : Reps w g.m g.Z H ds vs) (nm : a ∉ g.m) (nz : a ∉ g.zo) : Walk w g H (Itl K a) ds := by
  have keep : ∀ g' H', StepS g H g' H' → H' a = some (.lst vs) := fun g' H' s => s.keep _ _ hl (.inl ⟨nm, nz⟩) (fun _ q => by cases q)
  have hlen := r.length
  refine ⟨fun i g' H' hi s => ?_, fun i g' H' x Hx s y => ⟨.inl y.1, fun d hd P hP => ?_⟩, fun i g' H' hi s => ⟨vs, .of (keep _ _ s), by rw [← hlen]; exact hi⟩⟩
  · exact ⟨vs, vs[i]'(by rw [← hlen]; exact hi), .of (keep _ _ s), by simp [← hlen, hi]⟩
  · obtain ⟨v, hv, rv⟩ := r.get hd
    have e := y.2 vs (.of (keep _ _ s))
    rw [hv] at e
    cases e
    rw [y.1]
    exact (rv.mono (mono_z fun b q => q.imp id (hP b))).mono (s.mono.ex P)
theorem walk_tup {g : G} {H : Hp} {a : Addr} {ds : List D} {vs : List V} {K : PySem.W.Frag} (hl : H a = some (.tup vs) ∨ KTup K a vs) (r : Reps w g.m g.Z H ds vs) : Walk w g H (Itt K a) ds := by
  have keep : ∀ g' H', StepS g H g' H' → SqT K H' a vs := fun g' H' s => hl.elim (fun h => .of (s.keep _ _ h (.inr (.inl ⟨_, rfl⟩)) (fun _ q => by cases q))) KTup.sq
  have hlen := r.length
  refine ⟨fun i g' H' hi s => ?_, fun i g' H' x Hx s y => ⟨.inl y.1, fun d hd P hP => ?_⟩, fun i g' H' hi s => ⟨vs, keep _ _ s, by rw [← hlen]; exact hi⟩⟩
  · exact ⟨vs, vs[i]'(by rw [← hlen]; exact hi), keep _ _ s, by simp [← hlen, hi]⟩
  · obtain ⟨v, hv, rv⟩ := r.get hd
    have e := y.2 vs (keep _ _ s)
    rw [hv] at e
    cases e
    rw [y.1]
    exact (rv.mono (mono_z fun b q => q.imp id (hP b))).mono (s.mono.ex P)
theorem walk_frl {g : G} {H : Hp} {a : Addr} {ds : List D} {vs : List V} {K : PySem.W.Frag} (hl : (∃ o, H a = some (.frz o (.lst vs))) ∨ KLst K a vs) (r : Reps w g.m g.Z H ds vs) : Walk w g H (Itl K a) ds := by
  have keep : ∀ g' H', StepS g H g' H' → SqL K H' a vs := fun g' H' s => hl.elim (fun ⟨o, h⟩ => .inl (.inr ⟨o, s.keep _ _ h (.inr (.inr (.inr (.inr ⟨_, _, rfl⟩)))) (fun _ q => by cases q)⟩)) KLst.sq
  have hlen := r.length
  refine ⟨fun i g' H' hi s => ?_, fun i g' H' x Hx s y => ⟨.inl y.1, fun d hd P hP => ?_⟩, fun i g' H' hi s => ⟨vs, keep _ _ s, by rw [← hlen]; exact hi⟩⟩
  · exact ⟨vs, vs[i]'(by rw [← hlen]; exact hi), keep _ _ s, by simp [← hlen, hi]⟩
  · obtain ⟨v, hv, rv⟩ := r.get hd
    have e := y.2 vs (keep _ _ s)
    rw [hv] at e
    cases e
    rw [y.1]
    exact (rv.mono (mono_z fun b q => q.imp id (hP b))).mono (s.mono.ex P)
theorem walk_str {g : G} {H : Hp} {x : String} : Walk w g H (Its (s2 x)) (signs x) := by
  have hl : (signs x).length = (s2 x).cps.size := by unfold signs; rw [s2_cps]; simp
  refine ⟨fun i g' H' hi s => ?_, fun i g' H' v Hx s y => ⟨.inl y.1, fun d hd P hP => ?_⟩, fun i g' H' hi s => ?_⟩
  · show i < (s2 x).cps.size
    rw [← hl]; exact hi
  · obtain ⟨e, c, hc, rfl⟩ := y
    unfold signs at hd
    rw [List.getElem?_map] at hd
    obtain ⟨ch, hch, rfl⟩ := Option.map_eq_some_iff.mp hd
    have : c = ch.toNat := by
      rw [s2_cps] at hc
      simp only [List.getElem?_toArray, List.getElem?_map, hch, Option.map_some, Option.some.injEq] at hc
      exact hc.symm
    subst this
    rw [← s2_single]
    exact .str _
  · show (s2 x).cps.size ≤ i
    rw [← hl]; exact hi
theorem i_seq {tg e : Expr} {f : SE} (hK : X.K = w.K) (he : PE X e (rdE w W f)) : PI X tg e (rdI w W (sSeqI f)) := by
  refine PI.imp (PI.or (pi_list he) (PI.or (pi_tup he) (pi_str he))) fun σ H R ⟨g, ρ, S, rel, h⟩ => ?_
  -- which of them is seen by what the expression comes to
  have main : ∀ {r S1}, f ρ S = .ok r S1 → ∀ ds, seqOf r = some ds → PostI w W ρ σ R g H (.ok ds S1) → (∀ Q, (∀ v H1 m1, StepE g.m H m1 H1 → Rel w (g.at m1) ρ S1 σ H1 → Res w (g.at m1) H r S1 v H1 → Q v H1) → rdE w W f σ H Q) →
      iList X.K (rdE w W f) σ H R ∨ iTup X.K (rdE w W f) σ H R ∨ iStr (rdE w W f) σ H R := by
    intro r S1 e1 ds e2 hp run
    obtain ⟨d, fl⟩ := r
    unfold seqOf at e2
    dsimp only at e2
    split at e2
    · split at e2
      · cases e2
      · rename_i ds' nf
        cases e2
        refine .inl (run _ fun v H1 m1 s1 rel1 res1 => ?_)
        have bx : ∃ a vs, v = .ref a ∧ H1 a = some (.lst vs) ∧ Reps w m1 g.Z H1 ds vs ∧ a ∉ m1 ∧ a ∉ g.zo := by
          have of_rep : Rep w m1 g.Z H1 (.lst ds) v → ∃ a vs, v = .ref a ∧ H1 a = some (.lst vs) ∧ Reps w m1 g.Z H1 ds vs ∧ a ∉ m1 ∧ a ∉ g.zo := fun q => by
            cases q with
            | box b z n => cases b with | lst hq rr => exact ⟨_, _, rfl, hq, rr, n, fun q => z (.inl q)⟩
          cases fl with
          | sh => exact of_rep res1
          | own => exact of_rep (Res.arg res1)
          | mine => exact absurd rfl nf
          | bor =>
            rcases res1 with q | ⟨a, e, b, n, z⟩
            · exact of_rep q
            · cases b with | lst hq rr => exact ⟨a, _, e, hq, rr, n, z⟩
        obtain ⟨a, vs, rfl, hl, rr, nm, nz⟩ := bx
        exact ⟨a, rfl, ⟨vs, .of hl⟩, hp _ _ ⟨m1, s1, rel1, walk_list hl rr nm nz⟩⟩
    · rename_i ds'
      cases e2
      refine .inr (.inl (run _ fun v H1 m1 s1 rel1 res1 => ?_))
      have lk := (Res.arg res1).read.look.rep rfl
      cases lk with
      | tup hq rr => exact ⟨_, rfl, ⟨_, .of hq⟩, hp _ _ ⟨m1, s1, rel1, walk_tup (.inl hq) rr⟩⟩
      | gtup hq rr => exact ⟨_, rfl, ⟨_, hK ▸ hq.sq⟩, hp _ _ ⟨m1, s1, rel1, walk_tup (.inr (hK ▸ hq)) rr⟩⟩
      | box b => cases b
    · rename_i ds'
      cases e2
      refine .inl (run _ fun v H1 m1 s1 rel1 res1 => ?_)
      have lk := (Res.arg res1).read.look.rep rfl
      cases lk with
      | frl hq rr => exact ⟨_, rfl, ⟨_, .inl (.inr ⟨_, hq⟩)⟩, hp _ _ ⟨m1, s1, rel1, walk_frl (.inl ⟨_, hq⟩) rr⟩⟩
      | gfrl hq rr => exact ⟨_, rfl, ⟨_, hK ▸ hq.sq⟩, hp _ _ ⟨m1, s1, rel1, walk_frl (.inr (hK ▸ hq)) rr⟩⟩
      | box b => cases b
    · rename_i x'
      cases e2
      refine .inr (.inr (run _ fun v H1 m1 s1 rel1 res1 => ?_))
      have lk : Look w m1 g.Z H1 (.str x') v := (Res.arg res1).read.look
      exact ⟨_, lk.str, hp _ _ ⟨m1, s1, rel1, walk_str⟩⟩
    · cases e2
  cases e : f ρ S with
  | ok r S1 =>
    have h' : PostI w W ρ σ R g H (match seqOf r with | some ds => .ok ds S1 | none => .bad) := by
      unfold sSeqI at h; rw [e] at h; exact h
    cases e2 : seqOf r with
    | none => rw [e2] at h'; exact h'.elim
    | some ds =>
      rw [e2] at h'
      refine main e ds e2 h' fun Q q => ⟨g, ρ, S, rel, ?_⟩
      rw [e]
      exact fun v H1 ⟨m1, s1, rel1, res1⟩ => q v H1 m1 s1 rel1 res1
  | exc x S1 =>
    refine .inl ⟨g, ρ, S, rel, ?_⟩
    unfold sSeqI at h
    rw [e] at h ⊢
    exact h
  | bad => unfold sSeqI at h; rw [e] at h; exact h.elim

/-! ### range -/
def rngD (lo : Int) (n : Nat) : List D := (List.range n).map fun i => .int (lo + (i : Nat))
theorem walk_rng {g : G} {H : Hp} {lo : Int} {n : Nat} : Walk w g H (Itr lo n) (rngD lo n) := by
  have hl : (rngD lo n).length = n := by simp [rngD]
  refine ⟨fun i g' H' hi s => by rw [hl] at hi; exact hi, fun i g' H' v Hx s y => ⟨.inl y.1, fun d hd P hP => ?_⟩, fun i g' H' hi s => by rw [hl] at hi; exact hi⟩
  obtain ⟨e, rfl⟩ := y
  unfold rngD at hd
  rw [List.getElem?_map] at hd
  obtain ⟨j, hj, rfl⟩ := Option.map_eq_some_iff.mp hd
  have : j = i := by
    obtain ⟨h1, h2⟩ := List.getElem?_eq_some_iff.mp hj
    rw [List.getElem_range] at h2
    exact h2.symm
  subst this
  exact .int _
def sRng1 (fs : SA) : SI := fun ρ S => (fs ρ S).bind fun rs S1 => match rs with
  | [(.int j, _)] => if -(2 ^ 62) ≤ j ∧ j < 2 ^ 62 then .ok (rngD 0 j.toNat) S1 else .bad
  | _ => .bad
def sRng2 (fs : SA) : SI := fun ρ S => (fs ρ S).bind fun rs S1 => match rs with
  | [(.int i, _), (.int j, _)] => if -(2 ^ 62) ≤ i ∧ i < 2 ^ 62 ∧ -(2 ^ 62) ≤ j ∧ j < 2 ^ 62 then .ok (rngD i (j - i).toNat) S1 else .bad
  | _ => .bad
theorem Arg.int {m : List Addr} {Z : Addr → Prop} {H : Hp} {i : Int} {fl : Fl} {v : V} (h : Arg w m Z H (.int i, fl) v) : v = .int i := h.read.look.int
theorem i_rng1 {tg a : Expr} {fs : SA} {p pos : Pos} (b : BN X "range" (.type "range")) (hs : starEach [a] X.env = [(false, eval a X.env)]) (ha : PA X [a] (rdA w W fs)) : PI X tg (.Call (.Name "range" p) [a] [] pos) (rdI w W (sRng1 fs)) := by
  refine PI.imp (pi_range1 b.gl b.mg ha hs) fun σ H R ⟨g, ρ, S, rel, h⟩ => ?_
  refine rdA_imp (bindA rel h goodI) fun vs H1 ⟨rs, S1, m1, s1, rel1, as, _, h1⟩ => ?_
  split at h1
  · rename_i j fl _
    split at h1
    · rename_i c
      cases as with
      | cons a t =>
        cases t
        exact ⟨j, by rw [a.int], c.1, c.2, h1 _ _ ⟨m1, .refl _ _, rel1, walk_rng⟩⟩
    · exact h1.elim
  · exact h1.elim
theorem i_rng2 {tg a b : Expr} {fs : SA} {p pos : Pos} (bn : BN X "range" (.type "range")) (hs : starEach [a, b] X.env = [(false, eval a X.env), (false, eval b X.env)]) (hs2 : starEach [b] X.env = [(false, eval b X.env)]) (ha : PA X [a, b] (rdA w W fs)) : PI X tg (.Call (.Name "range" p) [a, b] [] pos) (rdI w W (sRng2 fs)) := by
  refine PI.imp (pi_range2 bn.gl bn.mg ha hs hs2) fun σ H R ⟨g, ρ, S, rel, h⟩ => ?_
  refine rdA_imp (bindA rel h goodI) fun vs H1 ⟨rs, S1, m1, s1, rel1, as, _, h1⟩ => ?_
  split at h1
  · rename_i i fi j fj _
    split at h1
    · rename_i c
      cases as with
      | cons a t =>
        cases t with
        | cons b t =>
          cases t
          exact ⟨i, j, by rw [a.int, b.int], c, h1 _ _ ⟨m1, .refl _ _, rel1, walk_rng⟩⟩
    · exact h1.elim
  · exact h1.elim
end
end DL

set_option maxRecDepth 100000
/-! The value layer: for; list comprehensions. -/
namespace DL
open PySem L2
section
variable {w : Wd} {W : WX} {X : Cx}
def forI (t : Tgt) (b : SS) : List D → Loc → Store → O
  | [], ρ, S => .nx ρ S
  | d :: ds, ρ, S => match t d ρ with
    | none => .bad
    | some ρ1 => match b ρ1 S with
      | .nx ρ2 S2 => forI t b ds ρ2 S2
      | .ct ρ2 S2 => forI t b ds ρ2 S2
      | .bk ρ2 S2 => .nx ρ2 S2
      | o => o
def sFor (f : SI) (t : Tgt) (b : SS) : SS := fun ρ S => goS (f ρ S) ρ fun ds S1 => forI t b ds ρ S1
/-- what a walk gives is there -/
theorem Walk.item {g g' : G} {H H' Hx : Hp} {J : It} {ds : List D} {i : Nat} {x : V} {d : D} {ρ : Loc} {S : Store} {σ : St} (wk : Walk w g H J ds) (s : StepS g H g' H') (y : J.yld i H' x Hx) (hd : ds[i]? = some d) (rel : Rel w g' ρ S σ H') :
    Rel w g' ρ S σ Hx ∧ StepE g'.m H' g'.m Hx ∧ ∀ P : Addr → Prop, (∀ b, P b → H b = none) → Rep w g'.m (fun b => g'.Z b ∨ P b) Hx d x := by
  obtain ⟨q, r⟩ := wk.yl i g' H' x Hx s y
  refine ⟨?_, ?_, r d hd⟩
  · rcases q with rfl | ⟨p, t, n, rfl⟩
    · exact rel
    · exact rel.new n
  · rcases q with rfl | ⟨p, t, n, rfl⟩
    · exact .refl _ _
    · exact .new n
theorem Rep.un {m : List Addr} {Z : Addr → Prop} {H : Hp} {d : D} {x : V} (h : ∀ P : Addr → Prop, (∀ b, P b → H b = none) → Rep w m (fun b => Z b ∨ P b) H d x) : Rep w m Z H d x :=
  (h (fun _ => False) (fun _ q => q.elim)).mono (mono_z fun b q => .inl (.inl q))
theorem st_for {iter tg : Expr} {body : List Stmt} {ns : List Nat} {f : SI} {t : Tgt} {b : SS} {pos : Pos} (hp : PassesOwn (model X.prog X.w) X.A X.env X.xe) (hc : X.calm = true) (hs : ∀ x, foldedSetIterable iter X.env x = pure x) (hi : PI X tg iter (rdI w W f)) (hg : PG X tg (rdG w ns t)) (hb : PSs X body (rdS w W b)) :
    PS X (.For tg iter body [] pos) (rdS w W (sFor f t b)) := by
  refine PS.imp (ps_for hp hc hi hg hb hs) fun D σ H ⟨g, ρ, S, rel, h⟩ => ?_
  refine rdI_imp (bindI rel h goodS) fun J H1 ⟨ds, S1, m1, s1, rel1, wk, h1⟩ => ?_
  have h1 : PostS w W D (g.at m1) H1 (forI t b ds ρ S1) := h1.step s1.toS
  refine ⟨fun i m σ' H' => m + i = ds.length ∧ ∃ g' ρ' S', StepS (g.at m1) H1 g' H' ∧ Rel w g' ρ' S' σ' H' ∧ PostS w W D g' H' (forI t b (ds.drop i) ρ' S'), ⟨ds.length, rfl, g.at m1, ρ, S1, .refl _ _, rel1, h1⟩, ?_⟩
  rintro i m σ' H' ⟨hm, g', ρ', S', st, rel', post⟩
  by_cases hi : i < ds.length
  · right
    refine ⟨wk.go i g' H' hi st, fun σ'' H'' => m - 1 + (i + 1) = ds.length ∧ ∃ g' ρ' S', StepS (g.at m1) H1 g' H'' ∧ Rel w g' ρ' S' σ'' H'' ∧ PostS w W D g' H'' (forI t b (ds.drop (i + 1)) ρ' S'), fun σ'' H'' q => ⟨m - 1, by omega, q⟩, fun x Hx y => ?_⟩
    have hd : ds[i]? = some ds[i] := by simp [hi]
    obtain ⟨relx, sx, rx⟩ := wk.item st y hd rel'
    have post : PostS w W D g' Hx (forI t b (ds.drop i) ρ' S') := post.step (g1 := g'.at g'.m) sx.toS
    rw [List.drop_eq_getElem_cons hi, forI] at post
    cases e : t ds[i] ρ' with
    | none => rw [e] at post; exact post.elim
    | some ρ1 =>
      rw [e] at post
      have rx0 : Rep w g'.m g'.Z Hx ds[i] x := (rx (fun _ => False) (fun _ q => q.elim)).mono (mono_z fun b q => .inl (.inl q))
      refine ⟨g', ρ', S', _, ρ1, relx, rx0, e, fun σ2 rel2 _ => ⟨g', ρ1, S', rel2, ?_⟩⟩
      dsimp only at post
      have stx : StepS (g.at m1) H1 g' Hx := st.trans (g2 := g') (g3 := g'.at g'.m) sx.toS
      cases e2 : b ρ1 S' with
      | nx ρ2 S2 => rw [e2] at post; exact fun σ3 H3 ⟨g3, st3, rel3⟩ => ⟨by omega, g3, ρ2, S2, stx.trans st3, rel3, post.step st3⟩
      | ct ρ2 S2 => rw [e2] at post; exact fun σ3 H3 ⟨g3, st3, rel3⟩ => ⟨by omega, g3, ρ2, S2, stx.trans st3, rel3, post.step st3⟩
      | bk ρ2 S2 => rw [e2] at post; exact post
      | rt r S2 => rw [e2] at post; exact post
      | ex x ρ2 S2 => rw [e2] at post; exact post
      | bad => rw [e2] at post; exact post
  · left
    refine ⟨wk.st i g' H' (by omega) st, ?_⟩
    rw [List.drop_eq_nil_of_le (by omega), forI] at post
    exact post σ' H' ⟨g', .refl _ _, rel'⟩

/-! ### list comprehensions -/
def wipeL : Loc → List Nat → Loc
  | ρ, [] => ρ
  | ρ, v :: vs => (wipeL ρ vs).set v none
theorem Rel.clear {g : G} {ρ : Loc} {S : Store} {σ : St} {H : Hp} {i : Nat} (rel : Rel w g ρ S σ H) : Rel w g (ρ.set i none) S (σ.set i none) H := by
  have ne : ∀ {j : Nat} {q : RV}, (ρ.set i none)[j]? = some (some q) → i ≠ j ∧ ρ[j]? = some (some q) := fun {j q} h => by
    by_cases hj : i = j
    · subst hj
      by_cases hi : i < ρ.length
      · rw [List.getElem?_set_self hi] at h; cases h
      · rw [List.getElem?_eq_none (by simpa using hi)] at h; cases h
    · rw [List.getElem?_set_ne hj] at h; exact ⟨hj, h⟩
  refine ⟨by rw [List.length_set, List.length_set]; exact rel.len, fun j d fl q => ?_, fun j k d e a q1 q2 p1 p2 => ?_, rel.sto, rel.nd, rel.sep, rel.sez, rel.trk, fun x d hx q => by
    obtain ⟨hj, q⟩ := ne q
    rw [List.getElem?_set_ne hj]
    exact rel.slf x d hx q⟩
  · obtain ⟨hj, q⟩ := ne q
    rw [List.getElem?_set_ne hj]
    exact rel.loc j d fl q
  · obtain ⟨hj, q1⟩ := ne q1
    obtain ⟨hk, q2⟩ := ne q2
    rw [List.getElem?_set_ne hj] at p1
    rw [List.getElem?_set_ne hk] at p2
    exact rel.inj j k d e a q1 q2 p1 p2
theorem Rel.wipe {g : G} {ρ : Loc} {S : Store} {σ : St} {H : Hp} (rel : Rel w g ρ S σ H) : ∀ vs : List Nat, Rel w g (wipeL ρ vs) S (L2.wipe σ vs) H
  | [] => rel
  | v :: vs => (Rel.wipe rel vs).clear
theorem wipe_get {σ : St} {j : Nat} : ∀ {vs : List Nat}, j ∈ vs → (L2.wipe σ vs)[j]? = if j < σ.length then some none else none
  | v :: vs, h => by
    unfold L2.wipe
    by_cases hv : v = j
    · subst hv
      by_cases hl : v < σ.length
      · rw [List.getElem?_set_self (by rw [wipe_length]; exact hl), if_pos hl]
      · rw [if_neg hl, List.getElem?_eq_none (by rw [List.length_set, wipe_length]; omega)]
    · rw [List.getElem?_set_ne hv]
      rcases List.mem_cons.mp h with q | q
      · exact absurd q.symm hv
      · exact wipe_get q
theorem But.wipe {ns vs : List Nat} {σ σ2 : St} (h : But ns (L2.wipe σ vs) σ2) (hn : ∀ n ∈ ns, n ∈ vs) : L2.wipe σ2 vs = L2.wipe σ vs := by
  have hl : σ2.length = σ.length := by rw [h.1, wipe_length]
  apply List.ext_getElem?
  intro j
  by_cases hj : j ∈ vs
  · rw [wipe_get hj, wipe_get hj, hl]
  · rw [wipe_out hj, h.2 j fun q => hj (hn j q)]
def lcI (t : Tgt) (c : ST) (f : SE) (ρ : Loc) : List D → Store → R (List D)
  | [], S => .ok [] S
  | d :: ds, S => match t d ρ with
    | none => .bad
    | some ρ1 => (c ρ1 S).go (fun _ _ => .bad) .bad fun k S1 =>
        if k = true then (f ρ1 S1).go (fun _ _ => .bad) .bad fun r S2 => if leakOk r = true then (lcI t c f ρ ds S2).bind fun rs S3 => .ok (r.1 :: rs) S3 else .bad
        else lcI t c f ρ ds S1
def sLc (fi : SI) (t : Tgt) (c : ST) (f : SE) (vs : List Nat) : SE := fun ρ S => (fi ρ S).bind fun ds S1 => if ds.length < sizeLine then (lcI t c f (wipeL ρ vs) ds S1).bind fun rs S2 => .ok (.lst rs, .own) S2 else .bad
def WF : WX := fun _ _ _ _ => False
/-- an address more is kept off -/
def G.off (g : G) (m : List Addr) (a : Addr) : G := { m := m, zo := g.zo, zb := a :: g.zb, sl := g.sl }
theorem G.off_Z {g : G} {m : List Addr} {a : Addr} (b : Addr) : (g.off m a).Z b ↔ g.Z b ∨ b = a := by
  unfold G.off G.Z
  simp only [List.mem_cons]
  constructor
  · rintro (h | h | h)
    · exact .inl (.inl h)
    · exact .inr h
    · exact .inl (.inr h)
  · rintro ((h | h) | h)
    · exact .inl h
    · exact .inr (.inr h)
    · exact .inr (.inl h)
theorem off_mono {g : G} {m m' : List Addr} {a : Addr} {H : Hp} : Mono m (g.off m' a).Z H m (fun b => g.Z b ∨ b = a) H := mono_z fun b q => .inl ((G.off_Z b).mpr q)
theorem mono_off {g : G} {m m' : List Addr} {a : Addr} {H : Hp} : Mono m (fun b => g.Z b ∨ b = a) H m (g.off m' a).Z H := mono_z fun b q => .inl ((G.off_Z b).mp q)
/-- the frame behind a step, an address kept off that was untracked -/
theorem Rel.stepOff {g : G} {ρ : Loc} {S S' : Store} {σ : St} {H H' : Hp} {m' : List Addr} {a : Addr} (rel : Rel w g ρ S σ H) (s : StepE g.m H m' H') (ha : H a = none) (na : H' a ≠ none) (nm : a ∉ m') (sto : Stored w m' (fun b => g.Z b ∨ b = a) H' S') (nd : m'.Nodup) (tr : ∀ b ∈ m', H' b ≠ none) :
    Rel w (g.off m' a) ρ S' σ H' := by
  have lz : ∀ b, (g.off m' a).Z b → g.Z b ∨ H b = none := fun b q => ((G.off_Z b).mp q).imp id fun q => by rw [q]; exact ha
  have M : ∀ {m}, Mono m g.Z H m (g.off m' a).Z H := fun {m} => mono_z lz
  have M2 : Mono g.m (g.off m' a).Z H m' (g.off m' a).Z H' := s.mono fun _ q => q
  refine ⟨rel.len, fun i d fl q => ?_, rel.inj, sto.less fun b q => .inl ((G.off_Z b).mp q), nd, fun b hb z => ?_, fun b hb q => ?_, fun b q => ?_, rel.slf⟩
  · obtain ⟨v, hv, held⟩ := rel.loc i d fl q
    refine ⟨v, hv, ?_⟩
    cases fl with
    | sh => exact (Rep.mono M held).mono M2
    | mine => exact held.elim
    | bor =>
      rcases held with h | ⟨c, e, b, n, z⟩
      · exact .inl ((Rep.mono M h).mono M2)
      · refine .inr ⟨c, e, ?_, s.notm (by cases b with | lst h _ => rw [h]; simp | dk h _ => exact rd_ne h | dt h _ => exact rd_ne h | ins h _ => rw [h]; simp) n, z⟩
        cases b with
        | lst h r => exact .lst (s.keep _ _ h (.inl n) (fun _ q => by cases q)) ((r.mono M).mono M2)
        | dk h r => exact .dk (s.rd h n (fun _ q => by cases q)) ((r.mono M).mono M2)
        | dt h r => exact .dt (s.rd h n (fun _ q => by cases q)) ((r.mono M).mono M2)
        | ins h r => exact .ins (s.keep _ _ h (.inl n) (fun _ q => by cases q)) ((r.mono M).mono M2)
    | own =>
      obtain ⟨c, e, b, z, n⟩ := held
      exact ⟨c, e, s.boxW (b.less lz) n, z, s.notm b.ne n⟩
  · rcases (G.off_Z b).mp z with z | z
    · obtain ⟨ex, e, hx⟩ := s.ms
      have hb : b ∈ g.m ++ ex := e ▸ hb
      rcases List.mem_append.mp hb with q | q
      · exact rel.sep b q z
      · exact rel.trk b (.inr z) (hx b q)
    · exact nm (by rw [← z]; exact hb)
  · rcases List.mem_cons.mp q with z | z
    · exact rel.trk b (.inr (.inl hb)) (by rw [z]; exact ha)
    · exact rel.sez b hb z
  · rcases q with q | q
    · exact tr b q
    · rcases (G.off_Z b).mp q with q | q
      · exact fun z => rel.trk b (.inr q) (s.grow b z)
      · rw [q]; exact na
/-- what is kept off may change -/
theorem mono_upd {m : List Addr} {Z : Addr → Prop} {H : Hp} {a : Addr} {o : HO} (hz : Z a) (h1 : ∀ xs, H a ≠ some (.tup xs)) (h2 : ∀ ob xs, H a ≠ some (.frz ob (.lst xs))) (h3 : ∀ cls d, H a ≠ some (ExcO cls d a)) (h4 : ∀ gs, H a ≠ some (.xd gs)) : Mono m Z H m Z (upd H a o) where
  tup := fun b xs h => by
    by_cases q : b = a
    · exact absurd (q ▸ h) (h1 xs)
    · rw [upd_ne q]; exact h
  box := fun b u _ h z n => by
    have q : b ≠ a := fun q => z (q ▸ hz)
    refine ⟨?_, z, n⟩
    unfold Rd
    rw [upd_ne q]; exact h
  exa := fun b u _ h z n => by
    have q : b ≠ a := fun q => z (q ▸ hz)
    exact ⟨by rw [upd_ne q]; exact h, z, n⟩
  frl := fun b ob xs h => by
    by_cases q : b = a
    · exact absurd (q ▸ h) (h2 ob xs)
    · rw [upd_ne q]; exact h
  exc := fun b cls d h => by
    by_cases q : b = a
    · subst q; exact absurd h (h3 cls d)
    · rw [upd_ne q]; exact h
  xd := fun b gs h => by
    by_cases q : b = a
    · exact absurd (q ▸ h) (h4 gs)
    · rw [upd_ne q]; exact h
  obj := fun _ _ h => h
theorem Stored.monoH {m : List Addr} {Z : Addr → Prop} {H H' : Hp} {S : Store} (h : Stored w m Z H S) (M : Mono m Z H m Z H') (hm : ∀ b ∈ m, H' b = H b) : Stored w m Z H' S :=
  ⟨h.len, fun n d e => by
    obtain ⟨a, q, b⟩ := h.at_ n d e
    have ea := hm a (List.mem_of_getElem? q)
    refine ⟨a, q, ?_⟩
    cases b with
    | lst h r => exact .lst (ea.trans h) (r.mono M)
    | dk h r => exact .dk (ea.trans h) (r.mono M)
    | dt h r => exact .dt (ea.trans h) (r.mono M)
    | ins h r => exact .ins (ea.trans h) (r.mono M)⟩
theorem rd_lc {ns : List Nat} {fi : SI} {t : Tgt} {c : ST} {f : SE} {vs : List Nat} {σ : St} {H : Hp} {Q : VK} (hns : ∀ n ∈ ns, n ∈ vs) (h : rdE w W (sLc fi t c f vs) σ H Q) :
    tLc (rdI w W fi) (rdG w ns t) (rdT w WF c) (rdE w WF f) vs σ H Q := by
  obtain ⟨g, ρ, S, rel, h⟩ := h
  refine rdI_imp (bindI rel h goodE) fun J H1 ⟨ds, S1, m1, s1, rel1, wk, h1⟩ a ha => ?_
  split at h1
  rotate_left
  · exact h1.elim
  rename_i hsz
  have h1 := goodE.step g H m1 H1 _ s1 h1
  have s0 : StepE m1 H1 m1 (upd H1 a (.lst [])) := .new ha
  have rn := rel1.new (o := .lst []) ha
  have na1 : a ∉ m1 := fun q => rel1.trk a (.inl q) ha
  have nz1 : ¬ g.Z a := fun q => rel1.trk a (.inr q) ha
  refine ⟨fun i m H' => m + i = ds.length ∧ ∃ m2 S2 acc us, StepE m1 H1 m2 H' ∧ m2.Nodup ∧ (∀ b ∈ m2, H' b ≠ none) ∧ Stored w m2 (fun b => g.Z b ∨ b = a) H' S2 ∧ H' a = some (.lst us) ∧ Reps w m2 (fun b => g.Z b ∨ b = a) H' acc us ∧ acc.length ≤ i ∧ a ∉ m2 ∧
    PostE w W ρ σ Q (g.at m1) H1 ((lcI t c f (wipeL ρ vs) (ds.drop i) S2).bind fun rs S3 => .ok (.lst (acc ++ rs), .own) S3), ⟨ds.length, rfl, m1, S1, [], [], s0, rel1.nd, fun b hb => rn.trk b (.inl hb), ?_, upd_same, .nil, Nat.le_refl _, na1, h1⟩, ?_⟩
  · have q : Stored w m1 (fun b => g.Z b ∨ b = a) H1 S1 := rel1.sto.less fun b q => q.imp id fun q => by rw [q]; exact ha
    exact q.step s0 fun b hb => upd_ne fun z => na1 (by rw [← z]; exact hb)
  rintro i m H' ⟨hm, m2, S2, acc, us, st, nd2, tr2, sto2, hl, reps, hacc, nm2, post⟩
  have relI : Rel w (g.off m2 a) (wipeL ρ vs) S2 (L2.wipe σ vs) H' := (rel1.wipe vs).stepOff st ha (by rw [hl]; simp) nm2 sto2 nd2 tr2
  have sto0 : Stored w m2 g.Z H' S2 := sto2.less fun b q => .inl (.inl q)
  have relO : Rel w (g.at m2) ρ S2 σ H' := rel1.step st sto0 nd2 tr2
  by_cases hi : i < ds.length
  · right
    refine ⟨wk.go i _ H' hi st.toS, fun H'' => m - 1 + (i + 1) = ds.length ∧ ∃ m2 S2 acc us, StepE m1 H1 m2 H'' ∧ m2.Nodup ∧ (∀ b ∈ m2, H'' b ≠ none) ∧ Stored w m2 (fun b => g.Z b ∨ b = a) H'' S2 ∧ H'' a = some (.lst us) ∧ Reps w m2 (fun b => g.Z b ∨ b = a) H'' acc us ∧ acc.length ≤ i + 1 ∧ a ∉ m2 ∧
      PostE w W ρ σ Q (g.at m1) H1 ((lcI t c f (wipeL ρ vs) (ds.drop (i + 1)) S2).bind fun rs S3 => .ok (.lst (acc ++ rs), .own) S3), fun H'' q => ⟨m - 1, by omega, q⟩, fun x Hx y => ?_⟩
    have hd : ds[i]? = some ds[i] := by simp [hi]
    obtain ⟨_, sx, rx⟩ := wk.item st.toS y hd relO
    have relx : Rel w (g.off m2 a) (wipeL ρ vs) S2 (L2.wipe σ vs) Hx := by
      obtain ⟨q, _⟩ := wk.yl i _ H' x Hx st.toS y
      rcases q with rfl | ⟨p, tt, n, rfl⟩
      · exact relI
      · exact relI.new n
    have hxl : Hx a = some (.lst us) := sx.keep _ _ hl (.inl nm2) (fun _ q => by cases q)
    have rx1 : Rep w m2 (g.off m2 a).Z Hx ds[i] x := (rx (fun b => b = a) fun b q => by rw [q]; exact ha).mono mono_off
    rw [List.drop_eq_getElem_cons hi, lcI] at post
    cases e : t ds[i] (wipeL ρ vs) with
    | none => rw [e] at post; exact post.elim
    | some ρ1 =>
      rw [e] at post
      dsimp only at post
      refine ⟨g.off m2 a, _, S2, _, ρ1, relx, rx1, e, fun σ2 rel2 but => ⟨but.wipe hns, g.off m2 a, ρ1, S2, rel2, ?_⟩⟩
      cases e2 : c ρ1 S2 with
      | exc z S3 => rw [e2] at post; exact post.elim
      | bad => rw [e2] at post; exact post.elim
      | ok k S3 =>
        rw [e2] at post
        refine fun H3 ⟨m3, s3, rel3⟩ => ?_
        have st3 : StepE m1 H1 m3 H3 := (st.trans sx).trans s3
        have hl3 : H3 a = some (.lst us) := s3.keep _ _ hxl (.inl nm2) (fun _ q => by cases q)
        have nm3 : a ∉ m3 := s3.notm (by rw [hxl]; simp) nm2
        have rp3 : Reps w m3 (fun b => g.Z b ∨ b = a) H3 acc us := (reps.mono (sx.mono fun _ q => q)).mono (s3.mono fun _ q => q)
        have sto3 : Stored w m3 (fun b => g.Z b ∨ b = a) H3 S3 := rel3.sto.less fun b q => .inl ((G.off_Z b).mpr q)
        simp only [R.go] at post
        cases k with
        | false => exact ⟨by omega, m3, S3, acc, us, st3, rel3.nd, fun b hb => rel3.trk b (.inl hb), sto3, hl3, rp3, by omega, nm3, post⟩
        | true =>
          simp only [if_true] at post
          show rdE w WF f σ2 H3 _
          refine ⟨(g.off m2 a).at m3, ρ1, S3, rel3, ?_⟩
          cases e3 : f ρ1 S3 with
          | exc z S4 => rw [e3] at post; exact post.elim
          | bad => rw [e3] at post; exact post.elim
          | ok r S4 =>
            rw [e3] at post
            simp only [R.go] at post
            split at post
            rotate_left
            · exact post.elim
            rename_i lk
            refine fun v H4 ⟨m4, s4, rel4, res4⟩ => ?_
            have hl4 : H4 a = some (.lst us) := s4.keep _ _ hl3 (.inl nm3) (fun _ q => by cases q)
            have nm4 : a ∉ m4 := s4.notm (by rw [hl3]; simp) nm3
            have rp4 : Reps w m4 (fun b => g.Z b ∨ b = a) H4 acc us := rp3.mono (s4.mono fun _ q => q)
            have rv : Rep w m4 (fun b => g.Z b ∨ b = a) H4 r.1 v := (Arg.rep (Res.arg res4) lk).mono off_mono
            have hm4 : ∀ b ∈ m4, upd H4 a (.lst (us ++ [v])) b = H4 b := fun b hb => upd_ne fun z => nm4 (by rw [← z]; exact hb)
            -- what is kept off stays over a change there
            have MZ : Mono m4 (fun b => g.Z b ∨ b = a) H4 m4 (fun b => g.Z b ∨ b = a) (upd H4 a (.lst (us ++ [v]))) := mono_upd (.inr rfl) (fun _ q => by rw [hl4] at q; cases q) (fun _ _ q => by rw [hl4] at q; cases q) (fun _ _ q => by rw [hl4] at q; cases q) fun _ q => by rw [hl4] at q; cases q
            refine ⟨us, hl4, ?_, by omega, m4, S4, acc ++ [r.1], us ++ [v], ?_, rel4.nd, fun b hb => by rw [hm4 b hb]; exact rel4.trk b (.inl hb), ?_, upd_same, (rp4.snoc rv).mono MZ, by simp; omega, nm4, ?_⟩
            · rw [← reps.length]; omega
            · have st4 := st3.trans s4
              refine ⟨fun b o h q t => ?_, fun b q => ?_, st4.ms⟩
              · have : b ≠ a := fun z => by rw [z, ha] at h; cases h
                rw [upd_ne this]
                exact st4.keep b o h q t
              · by_cases z : b = a
                · rw [z]; exact ha
                · rw [upd_ne z] at q; exact st4.grow b q
            · have q : Stored w m4 (fun b => g.Z b ∨ b = a) H4 S4 := rel4.sto.less fun b q => .inl ((G.off_Z b).mpr q)
              exact q.monoH MZ hm4
            · cases e4 : lcI t c f (wipeL ρ vs) (ds.drop (i + 1)) S4 with
              | ok rs S5 => rw [e4] at post; simpa [R.bind, R.go] using post
              | exc z S5 => rw [e4] at post; simpa [R.bind, R.go] using post
              | bad => rw [e4] at post; exact post.elim
  · left
    refine ⟨wk.st i _ H' (by omega) st.toS, ?_⟩
    rw [List.drop_eq_nil_of_le (by omega), lcI] at post
    simp only [R.bind, R.go, List.append_nil] at post
    exact post (.ref a) H' ⟨m2, st, relO, a, rfl, ha, nm2, nz1, .lst hl reps, sto2⟩
end
end DL

set_option maxRecDepth 100000
/-! The value layer: conditions; list comprehensions as values. -/
namespace DL
open PySem L2
section
variable {w : Wd} {W : WX} {X : Cx}
/-! ### conditions -/
theorem e_if {c a b : Expr} {t : ST} {f u : SE} {pos : Pos} (hc : PT X c (rdT w W t)) (ha : PE X a (rdE w W f)) (hb : PE X b (rdE w W u)) : PE X (.IfExp c a b pos) (rdE w W (sIf t f u)) := by
  refine PE.imp (pe_ifExp hc ha hb) fun σ H Q ⟨g, ρ, S, rel, h⟩ => ?_
  have h' : PostE w W ρ σ Q g H ((t ρ S).go R.exc R.bad fun k S1 => if k = true then f ρ S1 else u ρ S1) := h
  -- the answer's box must be newer than the test
  refine ⟨g, ρ, S, rel, ?_⟩
  cases e : t ρ S with
  | ok k S1 =>
    rw [e] at h'
    refine fun H1 ⟨m1, s1, rel1⟩ => ?_
    have h2 := goodE.step g H m1 H1 _ s1 h'
    cases k with
    | true => exact ⟨g.at m1, ρ, S1, rel1, h2⟩
    | false => exact ⟨g.at m1, ρ, S1, rel1, h2⟩
  | exc x S1 => rw [e] at h'; exact h'
  | bad => rw [e] at h'; exact h'
theorem e_and {a b : Expr} {rest : List Expr} {f u : SE} {pos : Pos} (ha : PE X a (rdE w W f)) (hb : PE X (.BoolOp .And (b :: rest) pos) (rdE w W u)) : PE X (.BoolOp .And (a :: b :: rest) pos) (rdE w W (sAnd f u)) := by
  refine PE.imp (pe_and ha hb) fun σ H Q ⟨g, ρ, S, rel, h⟩ => ?_
  refine rdE_imp (bindE rel h goodE) fun v H1 ⟨r1, S1, m1, s1, rel1, res1, _, h1⟩ => ?_
  obtain ⟨d, fl⟩ := r1
  cases d with
  | bl b =>
    have l : Look w m1 g.Z H1 (.bl b) v := res1.arg.read.look
    refine ⟨b, l.bl, ?_⟩
    cases b with
    | true => exact ⟨g.at m1, ρ, S1, rel1, h1⟩
    | false => exact h1 _ _ (.same rel1 (.bl false))
  | _ => exact h1.elim
theorem e_or {a b : Expr} {rest : List Expr} {f u : SE} {pos : Pos} (ha : PE X a (rdE w W f)) (hb : PE X (.BoolOp .Or (b :: rest) pos) (rdE w W u)) : PE X (.BoolOp .Or (a :: b :: rest) pos) (rdE w W (sOr f u)) := by
  refine PE.imp (pe_or ha hb) fun σ H Q ⟨g, ρ, S, rel, h⟩ => ?_
  refine rdE_imp (bindE rel h goodE) fun v H1 ⟨r1, S1, m1, s1, rel1, res1, _, h1⟩ => ?_
  obtain ⟨d, fl⟩ := r1
  cases d with
  | bl b =>
    have l : Look w m1 g.Z H1 (.bl b) v := res1.arg.read.look
    refine ⟨b, l.bl, ?_⟩
    cases b with
    | false => exact ⟨g.at m1, ρ, S1, rel1, h1⟩
    | true => exact h1 _ _ (.same rel1 (.bl true))
  | _ => exact h1.elim
theorem e_not {a : Expr} {f : SE} {pos : Pos} (ha : PE X a (rdE w W f)) : PE X (.UnaryOp .Not a pos) (rdE w W (sNot f)) := by
  refine PE.imp (pe_not ha) fun σ H Q ⟨g, ρ, S, rel, h⟩ => ?_
  refine rdE_imp (bindE rel h goodE) fun v H1 ⟨r1, S1, m1, s1, rel1, res1, _, h1⟩ => ?_
  obtain ⟨d, fl⟩ := r1
  cases d with
  | bl b =>
    have l : Look w m1 g.Z H1 (.bl b) v := res1.arg.read.look
    exact ⟨b, l.bl, h1 _ _ (.same rel1 (.bl _))⟩
  | _ => exact h1.elim
/-- the last of a row of `and` or `or` -/
theorem e_and1 {a : Expr} {f : SE} {pos : Pos} (h : PE X a (rdE w W f)) : PE X (.BoolOp .And [a] pos) (rdE w W f) := pe_one h
theorem e_or1 {a : Expr} {f : SE} {pos : Pos} (h : PE X a (rdE w W f)) : PE X (.BoolOp .Or [a] pos) (rdE w W f) := pe_one h
theorem rd_tAnd {s t : ST} {σ : St} {H : Hp} {Q : Bool → Hp → Prop} (h : rdT w W (tAndS s t) σ H Q) : tAnd (rdT w W s) (rdT w W t) σ H Q := by
  obtain ⟨g, ρ, S, rel, h⟩ := h
  refine rdT_imp (bindT rel h goodT) fun k H1 ⟨S1, m1, s1, rel1, _, h1⟩ => ?_
  cases k with
  | true => exact ⟨g.at m1, ρ, S1, rel1, h1⟩
  | false => exact h1 _ ⟨m1, .refl _ _, rel1⟩
theorem rd_tOr {s t : ST} {σ : St} {H : Hp} {Q : Bool → Hp → Prop} (h : rdT w W (tOrS s t) σ H Q) : tOr (rdT w W s) (rdT w W t) σ H Q := by
  obtain ⟨g, ρ, S, rel, h⟩ := h
  refine rdT_imp (bindT rel h goodT) fun k H1 ⟨S1, m1, s1, rel1, _, h1⟩ => ?_
  cases k with
  | false => exact ⟨g.at m1, ρ, S1, rel1, h1⟩
  | true => exact h1 _ ⟨m1, .refl _ _, rel1⟩
theorem w_and1 {a : Expr} {t : ST} {pos : Pos} (h : PT X a (rdT w W t)) : PW X (.BoolOp .And [a] pos) (rdT w W t) := pw_and1 h
theorem w_or1 {a : Expr} {t : ST} {pos : Pos} (h : PT X a (rdT w W t)) : PW X (.BoolOp .Or [a] pos) (rdT w W t) := pw_or1 h
theorem w_and {a b : Expr} {rest : List Expr} {s t : ST} {pos : Pos} (ha : PT X a (rdT w W s)) (hb : PW X (.BoolOp .And (b :: rest) pos) (rdT w W t)) : PW X (.BoolOp .And (a :: b :: rest) pos) (rdT w W (tAndS s t)) :=
  PW.imp (pw_and ha hb) fun _ _ _ h => rd_tAnd h
theorem w_or {a b : Expr} {rest : List Expr} {s t : ST} {pos : Pos} (ha : PT X a (rdT w W s)) (hb : PW X (.BoolOp .Or (b :: rest) pos) (rdT w W t)) : PW X (.BoolOp .Or (a :: b :: rest) pos) (rdT w W (tOrS s t)) :=
  PW.imp (pw_or ha hb) fun _ _ _ h => rd_tOr h
theorem t_not {a : Expr} {t : ST} {pos : Pos} (h : PT X a (rdT w W t)) : PT X (.UnaryOp .Not a pos) (rdT w W (tNotS t)) := by
  refine PT.imp (pt_not h) fun σ H Q ⟨g, ρ, S, rel, h⟩ => ?_
  refine rdT_imp (bindT rel h goodT) fun k H1 ⟨S1, m1, s1, rel1, _, h1⟩ => ?_
  exact h1 _ ⟨m1, .refl _ _, rel1⟩
/-- a op b op c -/
def sChain (op op' : RV → RV → Store → Option RV) (f u v : SE) : SE := fun ρ S => (f ρ S).bind fun x S1 => (u ρ S1).bind fun y S2 => (opt (op x y S2) S2).bind fun k S3 => match k.1 with
  | .bl true => (v ρ S3).bind fun z S4 => opt (op' y z S4) S4
  | .bl false => .ok (.bl false, .sh) S3
  | _ => .bad
theorem rd_chain {r r' : R2} {op op' : RV → RV → Store → Option RV} (ok : OkOp2 w r op) (ok' : OkOp2 w r' op') {f u v : SE} {σ : St} {H : Hp} {Q : VK} (h : rdE w W (sChain op op' f u v) σ H Q) : tChain r r' (rdE w W f) (rdE w W u) (rdE w W v) σ H Q := by
  obtain ⟨g, ρ, S, rel, h⟩ := h
  refine rdE_imp (bindE rel h goodE) fun x H1 ⟨r1, S1, m1, s1, rel1, res1, _, h1⟩ => ?_
  refine rdE_imp (bindE rel1 h1 goodE) fun y H2 ⟨r2, S2, m2, s2, rel2, res2, _, h2⟩ => ?_
  cases e : op r1 r2 S2 with
  | none => rw [e] at h2; exact h2.elim
  | some q =>
    rw [e] at h2
    refine ok (g.at m2) ρ S2 σ H2 r1 r2 x y q _ rel2 (s2.arg res1.arg) res2.arg e fun z H3 ⟨m3, s3, rel3, res3⟩ => ?_
    have h3 : PostE w W ρ σ Q (g.at m2) H2 (match q.1 with
      | .bl true => (v ρ S2).bind fun z S4 => opt (op' r2 z S4) S4
      | .bl false => .ok (.bl false, .sh) S2
      | _ => .bad) := h2
    have h4 := goodE.step (g.at m2) H2 m3 H3 _ s3 h3
    obtain ⟨d, fl⟩ := q
    cases d with
    | bl b =>
      have l : Look w m3 g.Z H3 (.bl b) z := res3.arg.read.look
      refine ⟨b, l.bl, ?_⟩
      cases b with
      | false => exact h4 _ _ (.same rel3 (.bl false))
      | true =>
        refine rdE_imp (bindE rel3 h4 goodE) fun z' H5 ⟨r5, S5, m5, s5, rel5, res5, _, h5⟩ => ?_
        obtain ⟨q', e', h6⟩ := post_opt h5
        exact ok' (g.at m5) ρ S5 σ H5 r2 r5 y z' q' Q rel5 (s5.arg (s3.arg res2.arg)) res5.arg e' h6
    | _ => exact h4.elim
theorem e_chain {op op' : CmpOp} {r r' : R2} {o o' : RV → RV → Store → Option RV} (ok : OkOp2 w r o) (ok' : OkOp2 w r' o') (ho : OpR X (compareOp op) r) (ho' : OpR X (compareOp op') r') {a b c : Expr} {f u v : SE} {pos : Pos}
    (hm : lastMarks [op, op'] [b, c] = false) (ha : PE X a (rdE w W f)) (hb : PE X b (rdE w W u)) (hc : PE X c (rdE w W v)) : PE X (.Compare a [op, op'] [b, c] pos) (rdE w W (sChain o o' f u v)) :=
  PE.imp (pe_chain ho ho' ha hb hc hm) fun _ _ _ h => rd_chain ok ok' h
theorem t_chain {op op' : CmpOp} {r r' : R2} {o o' : RV → RV → Store → Option RV} (ok : OkOp2 w r o) (ok' : OkOp2 w r' o') (ho : OpR X (compareOp op) r) (ho' : OpR X (compareOp op') r') {a b c : Expr} {f u v : SE} {pos : Pos}
    (hm : lastMarks [op, op'] [b, c] = false) (ha : PE X a (rdE w W f)) (hb : PE X b (rdE w W u)) (hc : PE X c (rdE w W v)) : PT X (.Compare a [op, op'] [b, c] pos) (rdT w W (sT (sChain o o' f u v))) :=
  PT.imp (pt_chain ho ho' ha hb hc hm) fun _ _ _ h => rd_chain ok ok' (rdT_sT h)

/-! ### list comprehensions -/
def sYes : ST := fun _ S => .ok true S
theorem c_nil : PTs X [] (rdT w W sYes) := ⟨fun pins s σ H Q I ⟨g, ρ, S, rel, h⟩ => pts_nil.run pins s σ H Q I (h H ⟨g.m, .refl _ _, rel⟩)⟩
theorem c_one {c : Expr} {t : ST} (h : PT X c (rdT w W t)) : PTs X [c] (rdT w W t) := pts_one h
/-- in whatever block of this scope -/
abbrev AllBlk (X : Cx) (scope : Scope) (P : Cx → Prop) : Prop := ∀ (s : Shared) (H : Hp) (C : Addr) (cl : List (Str × Addr)) (fp : List Addr), P (X.blk s H scope (compEnvC scope cl C X.env) fp)
theorem e_lc {elt tg iter : Expr} {ifs : List Expr} {scope : Scope} {own : List (Str × Nat)} {pos : Pos} {ns : List Nat} {fi : SI} {t : Tgt} {c : ST} {f : SE} (hc : X.calm = true) (hN : X.N.Nodup) (hs : ∀ x, foldedSetIterable iter X.env x = pure x) (ok : BlkOk X.N X.env.scope scope own)
    (hns : ∀ n ∈ ns, n ∈ own.map (·.2)) (hi : PI X tg iter (rdI w W fi)) (hg : AllBlk X scope fun B => PG B tg (rdG w ns t)) (ht : AllBlk X scope fun B => PTs B ifs (rdT w WF c)) (he : AllBlk X scope fun B => PE B elt (rdE w WF f)) :
    PE X (.ListComp elt [⟨tg, iter, ifs, 0⟩] scope pos) (rdE w W (sLc fi t c f (own.map (·.2)))) :=
  PE.imp (pe_lc hc hN hi ok hg ht he hs) fun _ _ _ h => rd_lc hns h
theorem st_setLc {i : Nat} {y : Str} {py : Pos} {elt tg iter : Expr} {ifs : List Expr} {scope : Scope} {own : List (Str × Nat)} {pos spos : Pos} {ns : List Nat} {fi : SI} {t : Tgt} {c : ST} {f : SE} (hc : X.calm = true) (o : Sto X i y) (hyl : X.env.scope.names.lookup y = some .local)
    (hsw : swapsWith (.ListComp elt [⟨tg, iter, ifs, 0⟩] scope pos) (some (.Name y py)) spos.line X.env = pure true) (hs : ∀ x, foldedSetIterable iter X.env x = pure x) (ok : BlkOk X.N X.env.scope scope own)
    (hns : ∀ n ∈ ns, n ∈ own.map (·.2)) (hi : PI X tg iter (rdI w W fi)) (hg : AllBlk X scope fun B => PG B tg (rdG w ns t)) (ht : AllBlk X scope fun B => PTs B ifs (rdT w WF c)) (he : AllBlk X scope fun B => PE B elt (rdE w WF f)) :
    PS X (.Assign [.Name y py] (.ListComp elt [⟨tg, iter, ifs, 0⟩] scope pos) spos) (rdS w W (sSet i (sLc fi t c f (own.map (·.2))))) := by
  refine PS.imp (ps_setLc hc o.nd o.at_ hyl hsw hi ok hg ht he hs) fun D σ H h => ?_
  have h := rd_set h
  exact rd_lc hns h
theorem st_ownLc {i : Nat} {y : Str} {py : Pos} {elt tg iter : Expr} {ifs : List Expr} {scope : Scope} {own : List (Str × Nat)} {pos spos : Pos} {ns : List Nat} {fi : SI} {t : Tgt} {c : ST} {f : SE} (hi0 : i ≠ 0) (hc : X.calm = true) (o : Sto X i y) (hyl : X.env.scope.names.lookup y = some .local)
    (hsw : swapsWith (.ListComp elt [⟨tg, iter, ifs, 0⟩] scope pos) (some (.Name y py)) spos.line X.env = pure true) (hs : ∀ x, foldedSetIterable iter X.env x = pure x) (ok : BlkOk X.N X.env.scope scope own)
    (hns : ∀ n ∈ ns, n ∈ own.map (·.2)) (hi : PI X tg iter (rdI w W fi)) (hg : AllBlk X scope fun B => PG B tg (rdG w ns t)) (ht : AllBlk X scope fun B => PTs B ifs (rdT w WF c)) (he : AllBlk X scope fun B => PE B elt (rdE w WF f)) :
    PS X (.Assign [.Name y py] (.ListComp elt [⟨tg, iter, ifs, 0⟩] scope pos) spos) (rdS w W (sOwn i (sLc fi t c f (own.map (·.2))))) := by
  refine PS.imp (ps_setLc hc o.nd o.at_ hyl hsw hi ok hg ht he hs) fun D σ H h => ?_
  have h := rd_own hi0 h
  exact rd_lc hns h
end
end DL

set_option maxRecDepth 100000
/-! The value layer: built-in functions of values. -/
namespace DL
open PySem L2
section
variable {w : Wd} {W : WX} {X : Cx}
/-! ### rows of numbers, truths, texts -/
def intsD : List D → Option (List Int)
  | [] => some []
  | .int i :: r => (intsD r).map (i :: ·)
  | _ => none
def blsD : List D → Option (List Bool)
  | [] => some []
  | .bl b :: r => (blsD r).map (b :: ·)
  | _ => none
def strsD : List D → Option (List String)
  | [] => some []
  | .str x :: r => (strsD r).map (x :: ·)
  | _ => none
theorem Rep.int' {m : List Addr} {Z : Addr → Prop} {H : Hp} {i : Int} {v : V} (h : Rep w m Z H (.int i) v) : v = .int i := Look.int (.inl h)
theorem Rep.bl' {m : List Addr} {Z : Addr → Prop} {H : Hp} {b : Bool} {v : V} (h : Rep w m Z H (.bl b) v) : v = .bl b := Look.bl (.inl h)
theorem Rep.str' {m : List Addr} {Z : Addr → Prop} {H : Hp} {x : String} {v : V} (h : Rep w m Z H (.str x) v) : v = .str (s2 x) := Look.str (.inl h)
theorem Reps.intsD {m : List Addr} {Z : Addr → Prop} {H : Hp} : ∀ {ds : List D} {vs : List V} {ns : List Int}, Reps w m Z H ds vs → DL.intsD ds = some ns → vs = ns.map V.int
  | _, _, _, .nil, e => by cases e; rfl
  | d :: _, _, ns, .cons h r, e => by
    cases d with
    | int i =>
      obtain ⟨ms, e1, rfl⟩ := Option.map_eq_some_iff.mp e
      rw [h.int', Reps.intsD r e1]; rfl
    | _ => cases e
theorem Reps.blsD {m : List Addr} {Z : Addr → Prop} {H : Hp} : ∀ {ds : List D} {vs : List V} {ns : List Bool}, Reps w m Z H ds vs → DL.blsD ds = some ns → vs = ns.map V.bl
  | _, _, _, .nil, e => by cases e; rfl
  | d :: _, _, ns, .cons h r, e => by
    cases d with
    | bl i =>
      obtain ⟨ms, e1, rfl⟩ := Option.map_eq_some_iff.mp e
      rw [h.bl', Reps.blsD r e1]; rfl
    | _ => cases e
theorem Reps.strsD {m : List Addr} {Z : Addr → Prop} {H : Hp} : ∀ {ds : List D} {vs : List V} {ns : List String}, Reps w m Z H ds vs → DL.strsD ds = some ns → vs = (ns.map s2).map V.str
  | _, _, _, .nil, e => by cases e; rfl
  | d :: _, _, ns, .cons h r, e => by
    cases d with
    | str i =>
      obtain ⟨ms, e1, rfl⟩ := Option.map_eq_some_iff.mp e
      rw [h.str', Reps.strsD r e1]; rfl
    | _ => cases e
/-- a list that is read, whatever kind of list it is -/
theorem Look.lists {m : List Addr} {Z : Addr → Prop} {H : Hp} {d : D} {ds : List D} {v : V} (h : Look w m Z H d v) (e : d = .lst ds ∨ d = .frl ds) : ∃ a vs, v = .ref a ∧ SqL w.K H a vs ∧ Reps w m Z H ds vs := by
  rcases e with rfl | rfl
  · obtain ⟨a, vs, e1, e2, e3⟩ := h.lst
    exact ⟨a, vs, e1, .of e2, e3⟩
  · exact h.frl
def oLen (a : RV) (S : Store) : Option RV := match view S a.1 with
  | .tup ds => some (.int ds.length, .sh)
  | .lst ds => some (.int ds.length, .sh)
  | .frl ds => some (.int ds.length, .sh)
  | .str x => if x.length ≤ sizeLine then some (.int x.length, .sh) else none
  | _ => none
theorem ok_len (hK : X.K = w.K) : OkOp1 w (fun x H Q => (fun xs H Q => ∃ x n, xs = [x] ∧ LenV X.K x H n ∧ Q (.int n) H) [x] H Q) oLen := by
  intro g ρ S σ H a x q Q rel ha e k
  have l := look_view rel ha
  unfold oLen at e
  split at e
  · rename_i ds hd
    cases e
    rw [hd] at l
    obtain ⟨p, vs, rfl, hs, r⟩ := l.tup
    exact ⟨_, vs.length, rfl, .inr ⟨vs, hK ▸ hs, rfl⟩, k _ _ (by rw [← r.length]; exact .same rel (.int _))⟩
  · rename_i ds hd
    cases e
    obtain ⟨p, vs, rfl, hs, r⟩ := l.lists (.inl hd)
    exact ⟨_, vs.length, rfl, .inl ⟨vs, hK ▸ hs, rfl⟩, k _ _ (by rw [← r.length]; exact .same rel (.int _))⟩
  · rename_i ds hd
    cases e
    obtain ⟨p, vs, rfl, hs, r⟩ := l.lists (.inr hd)
    exact ⟨_, vs.length, rfl, .inl ⟨vs, hK ▸ hs, rfl⟩, k _ _ (by rw [← r.length]; exact .same rel (.int _))⟩
  · rename_i y hd
    split at e
    · rename_i c
      cases e
      rw [hd] at l
      cases l.str
      exact ⟨_, y.length, rfl, ⟨by rw [s2_len]; exact c, (s2_len y).symm⟩, k _ _ (.same rel (.int _))⟩
    · cases e
  · cases e
def oInt (a : RV) (_ : Store) : Option RV := match a.1 with
  | .int i => some (.int i, .sh)
  | .bl b => some (.int (if b then 1 else 0), .sh)
  | _ => none
theorem ok_int : OkOp1 w (fun x H Q => (fun xs H Q => (∃ i, xs = [.int i] ∧ Q (.int i) H) ∨ ∃ k, xs = [.bl k] ∧ Q (.int (if k then 1 else 0)) H) [x] H Q) oInt := by
  intro g ρ S σ H a x q Q rel ha e k
  have l := ha.read.look
  unfold oInt at e
  split at e
  · rename_i i hd
    rw [hd] at l
    cases e
    cases l.int
    exact .inl ⟨i, rfl, k _ _ (.same rel (.int _))⟩
  · rename_i b hd
    rw [hd] at l
    cases e
    cases l.bl
    exact .inr ⟨b, rfl, k _ _ (.same rel (.int _))⟩
  · cases e
def oAbs (a : RV) (_ : Store) : Option RV := match a.1 with
  | .int i => some (.int (if i < 0 then -i else i), .sh)
  | _ => none
theorem ok_abs : OkOp1 w (fun x H Q => (fun xs H Q => ∃ i, xs = [.int i] ∧ Q (.int (if i < 0 then -i else i)) H) [x] H Q) oAbs := by
  intro g ρ S σ H a x q Q rel ha e k
  have l := ha.read.look
  unfold oAbs at e
  split at e
  · rename_i i hd
    rw [hd] at l
    cases e
    cases l.int
    exact ⟨i, rfl, k _ _ (.same rel (.int _))⟩
  · cases e
def oMax2 (a b : RV) (_ : Store) : Option RV := match a.1, b.1 with
  | .int i, .int j => some (.int (if j > i then j else i), .sh)
  | _, _ => none
theorem ok_max2 : OkOp2 w (fun x y H Q => (fun xs H Q => ∃ i j, xs = [.int i, .int j] ∧ Q (.int (if j > i then j else i)) H) [x, y] H Q) oMax2 := by
  intro g ρ S σ H a b x y q Q rel ha hb e k
  have l := ha.read.look
  have l2 := hb.read.look
  unfold oMax2 at e
  split at e
  · rename_i i j hd hd2
    rw [hd] at l
    rw [hd2] at l2
    cases e
    cases l.int
    cases l2.int
    exact ⟨i, j, rfl, k _ _ (.same rel (.int _))⟩
  · cases e
def oMin2 (a b : RV) (_ : Store) : Option RV := match a.1, b.1 with
  | .int i, .int j => some (.int (if j < i then j else i), .sh)
  | _, _ => none
theorem ok_min2 : OkOp2 w (fun x y H Q => (fun xs H Q => ∃ i j, xs = [.int i, .int j] ∧ Q (.int (if j < i then j else i)) H) [x, y] H Q) oMin2 := by
  intro g ρ S σ H a b x y q Q rel ha hb e k
  have l := ha.read.look
  have l2 := hb.read.look
  unfold oMin2 at e
  split at e
  · rename_i i j hd hd2
    rw [hd] at l
    rw [hd2] at l2
    cases e
    cases l.int
    cases l2.int
    exact ⟨i, j, rfl, k _ _ (.same rel (.int _))⟩
  · cases e
def lstOf : D → Option (List D)
  | .lst ds => some ds
  | .frl ds => some ds
  | _ => none
theorem lstOf_eq {d : D} {ds : List D} (h : lstOf d = some ds) : d = .lst ds ∨ d = .frl ds := by
  cases d with
  | lst _ => cases h; exact .inl rfl
  | frl _ => cases h; exact .inr rfl
  | _ => cases h
/-- a list of numbers, of truths -/
def intsOf (a : RV) (S : Store) : Option (List Int) := (lstOf (view S a.1)).bind intsD
def blsOf (a : RV) (S : Store) : Option (List Bool) := (lstOf (view S a.1)).bind blsD
def oSum (a : RV) (S : Store) : Option RV := (intsOf a S).map fun ns => (.int ns.sum, .sh)
def maxI : List Int → Int
  | [] => 0
  | n :: r => r.foldl max n
def oMaxL (a : RV) (S : Store) : Option RV := (intsOf a S).bind fun ns => if ns = [] then none else some (.int (maxI ns), .sh)
def oAny (a : RV) (S : Store) : Option RV := (blsOf a S).map fun bs => (.bl (bs.any id), .sh)
def oAll (a : RV) (S : Store) : Option RV := (blsOf a S).map fun bs => (.bl (bs.all id), .sh)
theorem Look.intsD {g : G} {ρ : Loc} {S : Store} {σ : St} {H : Hp} {a : RV} {x : V} {ns : List Int} (rel : Rel w g ρ S σ H) (ha : Arg w g.m g.Z H a x) (e : intsOf a S = some ns) : ∃ p, x = .ref p ∧ SqL w.K H p (ns.map V.int) := by
  obtain ⟨ds, e1, e2⟩ := Option.bind_eq_some_iff.mp e
  obtain ⟨p, vs, rfl, hs, r⟩ := (look_view rel ha).lists (lstOf_eq e1)
  exact ⟨p, rfl, r.intsD e2 ▸ hs⟩
theorem Look.blsD {g : G} {ρ : Loc} {S : Store} {σ : St} {H : Hp} {a : RV} {x : V} {ns : List Bool} (rel : Rel w g ρ S σ H) (ha : Arg w g.m g.Z H a x) (e : blsOf a S = some ns) : ∃ p, x = .ref p ∧ SqL w.K H p (ns.map V.bl) := by
  obtain ⟨ds, e1, e2⟩ := Option.bind_eq_some_iff.mp e
  obtain ⟨p, vs, rfl, hs, r⟩ := (look_view rel ha).lists (lstOf_eq e1)
  exact ⟨p, rfl, r.blsD e2 ▸ hs⟩
theorem ok_sum (hK : X.K = w.K) : OkOp1 w (fun x H Q => rSum X.K [x] H Q) oSum := by
  intro g ρ S σ H a x q Q rel ha e k
  obtain ⟨ns, e1, rfl⟩ := Option.map_eq_some_iff.mp e
  obtain ⟨p, rfl, hs⟩ := Look.intsD rel ha e1
  exact ⟨p, ns, rfl, hK ▸ hs, k _ _ (.same rel (.int _))⟩
theorem maxI_mem : ∀ {r : List Int} {n : Int}, r.foldl max n = n ∨ r.foldl max n ∈ r
  | [], _ => .inl rfl
  | m :: r, n => by
    rw [List.foldl_cons]
    rcases maxI_mem (r := r) (n := max n m) with h | h
    · rw [h]
      rcases Int.le_total n m with l | l
      · rw [Int.max_eq_right l]; exact .inr List.mem_cons_self
      · rw [Int.max_eq_left l]; exact .inl rfl
    · exact .inr (List.mem_cons_of_mem _ h)
theorem le_maxI : ∀ {r : List Int} {n y : Int}, y = n ∨ y ∈ r → y ≤ r.foldl max n
  | [], n, y, h => h.elim (fun q => by rw [q]; exact Int.le_refl _) fun q => by cases q
  | m :: r, n, y, h => by
    rw [List.foldl_cons]
    have go : max n m ≤ r.foldl max (max n m) := le_maxI (.inl rfl)
    rcases h with rfl | h
    · exact Int.le_trans (Int.le_max_left _ _) go
    · rcases List.mem_cons.mp h with rfl | h
      · exact Int.le_trans (Int.le_max_right _ _) go
      · exact le_maxI (.inr h)
theorem ok_maxL (hK : X.K = w.K) : OkOp1 w (fun x H Q => rMax X.K [x] H Q) oMaxL := by
  intro g ρ S σ H a x q Q rel ha e k
  obtain ⟨ns, e1, e2⟩ := Option.bind_eq_some_iff.mp e
  split at e2
  · cases e2
  · rename_i ne
    cases e2
    obtain ⟨p, rfl, hs⟩ := Look.intsD rel ha e1
    refine ⟨p, ns, rfl, hK ▸ hs, by cases ns with | nil => exact absurd rfl ne | cons _ _ => simp, fun m hm hl => ?_⟩
    have : m = maxI ns := by
      cases ns with
      | nil => exact absurd rfl ne
      | cons n r =>
        refine Int.le_antisymm (le_maxI (List.mem_cons.mp hm)) (hl _ ?_)
        rcases maxI_mem (r := r) (n := n) with h | h
        · show r.foldl max n ∈ _; rw [h]; exact List.mem_cons_self
        · exact List.mem_cons_of_mem _ h
    rw [this]
    exact k _ _ (.same rel (.int _))
theorem ok_any (hK : X.K = w.K) : OkOp1 w (fun x H Q => rAny X.K [x] H Q) oAny := by
  intro g ρ S σ H a x q Q rel ha e k
  obtain ⟨ns, e1, rfl⟩ := Option.map_eq_some_iff.mp e
  obtain ⟨p, rfl, hs⟩ := Look.blsD rel ha e1
  exact ⟨p, ns, rfl, hK ▸ hs, k _ _ (.same rel (.bl _))⟩
theorem ok_all (hK : X.K = w.K) : OkOp1 w (fun x H Q => rAll X.K [x] H Q) oAll := by
  intro g ρ S σ H a x q Q rel ha e k
  obtain ⟨ns, e1, rfl⟩ := Option.map_eq_some_iff.mp e
  obtain ⟨p, rfl, hs⟩ := Look.blsD rel ha e1
  exact ⟨p, ns, rfl, hK ▸ hs, k _ _ (.same rel (.bl _))⟩
/-- tuple(x), list(x) of a row -/
def oTupOf (a : RV) (S : Store) : Option RV := match view S a.1 with
  | .tup ds => some (.tup ds, .sh)
  | .lst ds => some (.tup ds, .sh)
  | .frl ds => some (.tup ds, .sh)
  | _ => none
def oLstOf (a : RV) (S : Store) : Option RV := match view S a.1 with
  | .tup ds => some (.lst ds, .own)
  | .lst ds => some (.lst ds, .own)
  | .frl ds => some (.lst ds, .own)
  | _ => none
theorem ok_tupOf (hK : X.K = w.K) : OkOp1 w (fun x H Q => (fun xs H Q => ∃ p ys, xs = [V.ref p] ∧ ((SqL X.K H p ys ∧ ∀ l, H l = none → Q (.ref l) (upd H l (.tup ys))) ∨ (SqT X.K H p ys ∧ Q (.ref p) H))) [x] H Q) oTupOf := by
  intro g ρ S σ H a x q Q rel ha e k
  have l := look_view rel ha
  unfold oTupOf at e
  split at e
  · rename_i ds hd
    cases e
    rw [hd] at l
    have r0 : Rep w g.m g.Z H (.tup ds) x := l.rep rfl
    obtain ⟨p, vs, rfl, hs, r⟩ := l.tup
    exact ⟨p, vs, rfl, .inr ⟨hK ▸ hs, k _ _ (.same rel r0)⟩⟩
  · rename_i ds hd
    cases e
    obtain ⟨p, vs, rfl, hs, r⟩ := l.lists (.inl hd)
    exact ⟨p, vs, rfl, .inl ⟨hK ▸ hs, fun l hl => k _ _ (.tup rel r hl)⟩⟩
  · rename_i ds hd
    cases e
    obtain ⟨p, vs, rfl, hs, r⟩ := l.lists (.inr hd)
    exact ⟨p, vs, rfl, .inl ⟨hK ▸ hs, fun l hl => k _ _ (.tup rel r hl)⟩⟩
  · cases e
theorem ok_lstOf (hK : X.K = w.K) : OkOp1 w (fun x H Q => (fun xs H Q => ∃ p ys, xs = [V.ref p] ∧ (SqL X.K H p ys ∨ SqT X.K H p ys) ∧ ∀ l, H l = none → Q (.ref l) (upd H l (.lst ys))) [x] H Q) oLstOf := by
  intro g ρ S σ H a x q Q rel ha e k
  have l := look_view rel ha
  unfold oLstOf at e
  split at e
  · rename_i ds hd
    cases e
    rw [hd] at l
    obtain ⟨p, vs, rfl, hs, r⟩ := l.tup
    exact ⟨p, vs, rfl, .inr (hK ▸ hs), fun l hl => k _ _ (.lst rel r hl)⟩
  · rename_i ds hd
    cases e
    obtain ⟨p, vs, rfl, hs, r⟩ := l.lists (.inl hd)
    exact ⟨p, vs, rfl, .inl (hK ▸ hs), fun l hl => k _ _ (.lst rel r hl)⟩
  · rename_i ds hd
    cases e
    obtain ⟨p, vs, rfl, hs, r⟩ := l.lists (.inr hd)
    exact ⟨p, vs, rfl, .inl (hK ▸ hs), fun l hl => k _ _ (.lst rel r hl)⟩
  · cases e
/-- x.join(list or tuple of texts) -/
def rowOf : D → Option (List D)
  | .lst ds => some ds
  | .frl ds => some ds
  | .tup ds => some ds
  | _ => none
def joinS (x : String) : List String → String
  | [] => ""
  | [p] => p
  | p :: q :: r => p ++ x ++ joinS x (q :: r)
theorem joinS_s2 (x : String) : ∀ ys : List String, s2 (joinS x ys) = Txt.join (s2 x) (ys.map s2) := fun ys => by
  rw [show Txt.join (s2 x) (ys.map s2) = Str.join (s2 x) (ys.map s2) from StrLaws.glued_eq_join _ _]
  have go : ∀ ys : List String, s2 (joinS x ys) = Str.join (s2 x) (ys.map s2) := by
    intro ys
    induction ys with
    | nil => rfl
    | cons p r ih =>
      cases r with
      | nil => rfl
      | cons q r =>
        show s2 (p ++ x ++ joinS x (q :: r)) = s2 p ++ s2 x ++ Str.join (s2 x) ((q :: r).map s2)
        rw [← ih, s2_app, s2_app]
  exact go ys
def sJoin (f g : SE) : SE := fun ρ S => (f ρ S).bind fun r S1 => match r.1 with
  | .str x => (g ρ S1).bind fun q S2 => match (rowOf (view S2 q.1)).bind strsD with
    | some ys => if (ys.map (·.length)).sum + ys.length * x.length ≤ 16777216 then .ok (.str (joinS x ys), .sh) S2 else .bad
    | none => .bad
  | _ => .bad
theorem rows_of {m : List Addr} {Z : Addr → Prop} {H : Hp} {d : D} {ds : List D} {v : V} (h : Look w m Z H d v) (e : rowOf d = some ds) : ∃ a vs, v = .ref a ∧ (SqL w.K H a vs ∨ SqT w.K H a vs) ∧ Reps w m Z H ds vs := by
  cases d with
  | lst _ => cases e; obtain ⟨a, vs, e1, e2, e3⟩ := h.lists (.inl rfl); exact ⟨a, vs, e1, .inl e2, e3⟩
  | frl _ => cases e; obtain ⟨a, vs, e1, e2, e3⟩ := h.lists (.inr rfl); exact ⟨a, vs, e1, .inl e2, e3⟩
  | tup _ => cases e; obtain ⟨a, vs, e1, e2, e3⟩ := h.tup; exact ⟨a, vs, e1, .inr e2, e3⟩
  | _ => cases e
theorem e_join {o e : Expr} {f u : SE} {apos pos : Pos} (hK : X.K = w.K) (hs : starEach [e] X.env = [(false, eval e X.env)]) (hbase : attributeBase o "join" X.env (eval o X.env) = eval o X.env) (hline : (apos.endLine == pos.line) = true)
    (ho : PE X o (rdE w W f)) (he : PE X e (rdE w W u)) : PE X (.Call (.Attribute o "join" apos) [e] [] pos) (rdE w W (sJoin f u)) := by
  refine PE.imp (pe_join ho he hs hbase hline) fun σ H Q ⟨g, ρ, S, rel, h⟩ => ?_
  refine rdE_imp (bindE rel h goodE) fun x H1 ⟨r1, S1, m1, s1, rel1, res1, _, h1⟩ => ?_
  split at h1
  rotate_left
  · exact h1.elim
  rename_i y ey
  have l := res1.arg.read.look
  rw [ey] at l
  cases l.str
  refine ⟨⟨_, rfl⟩, ?_⟩
  refine rdE_imp (bindE rel1 h1 goodE) fun z H2 ⟨r2, S2, m2, s2', rel2, res2, _, h2⟩ => ?_
  split at h2
  rotate_left
  · exact h2.elim
  rename_i ys e2
  split at h2
  rotate_left
  · exact h2.elim
  rename_i c
  obtain ⟨ds, e3, e4⟩ := Option.bind_eq_some_iff.mp e2
  obtain ⟨a, vs, rfl, hs, r⟩ := rows_of (look_view rel2 res2.arg) e3
  have ev := r.strsD e4
  subst ev
  refine ⟨s2 y, a, ys.map s2, rfl, rfl, hK ▸ hs, ?_, ?_⟩
  · rw [List.map_map, List.length_map, s2_len]
    have : (ys.map (Str.length ∘ s2)) = ys.map (·.length) := List.map_congr_left fun q _ => s2_len q
    rw [this]; exact c
  · rw [← joinS_s2]
    exact h2 _ _ (.same rel2 (.str _))
end
end DL

set_option maxRecDepth 100000
/-! The value layer: dicts and lists with a name of their own; dict items; join. -/
namespace DL
open PySem L2
section
variable {w : Wd} {W : WX} {X : Cx}
/-! ### a thing with a name changes -/
theorem Rel.poke {g : G} {ρ : Loc} {S : Store} {σ : St} {H : Hp} {n : Nat} {a : Addr} {d : D} {o : HO} (rel : Rel w g ρ S σ H) (ha : g.m[n]? = some a) (hf : ∀ u, H a = some u → ¬ fixO a u)
    (b : BoxW w g.m g.Z (upd H a o) d a) : StepE g.m H g.m (upd H a o) ∧ Rel w g ρ (S.set n d) σ (upd H a o) := by
  have am : a ∈ g.m := List.mem_of_getElem? ha
  have s : StepE g.m H g.m (upd H a o) := by
    refine ⟨fun b u e q t => ?_, fun b e => ?_, [], by simp⟩
    · by_cases hb : b = a
      · subst hb
        rcases q with q | q
        · exact absurd am q
        · exact absurd q (hf u e)
      · rw [upd_ne hb]; exact e
    · by_cases hb : b = a
      · rw [hb, upd_same] at e; cases e
      · rw [upd_ne hb] at e; exact e
  refine ⟨s, rel.step s ⟨by rw [List.length_set]; exact rel.sto.len, fun k e q => ?_⟩ rel.nd fun c hc => ?_⟩
  · by_cases hk : n = k
    · subst hk
      have hl : n < S.length := by
        rw [rel.sto.len]; exact (List.getElem?_eq_some_iff.mp ha).1
      rw [List.getElem?_set_self hl] at q
      cases q
      exact ⟨a, ha, b⟩
    · rw [List.getElem?_set_ne hk] at q
      obtain ⟨c, hc, bx⟩ := rel.sto.at_ k e q
      refine ⟨c, hc, ?_⟩
      have ne : c ≠ a := fun z => by
        subst z
        have h1 := List.getElem?_eq_some_iff.mp ha
        have h2 := List.getElem?_eq_some_iff.mp hc
        obtain ⟨l1, q1⟩ := h1
        obtain ⟨l2, q2⟩ := h2
        rcases Nat.lt_trichotomy n k with h | h | h
        · exact List.pairwise_iff_getElem.mp rel.nd n k l1 l2 h (q1.trans q2.symm)
        · exact hk h
        · exact List.pairwise_iff_getElem.mp rel.nd k n l2 l1 h (q2.trans q1.symm)
      have M : Mono g.m g.Z H g.m g.Z (upd H a o) := s.mono fun _ q => q
      cases bx with
      | lst h r => exact .lst (by rw [upd_ne ne]; exact h) (r.mono M)
      | dk h r => exact .dk (by rw [upd_ne ne]; exact h) (r.mono M)
      | dt h r => exact .dt (by rw [upd_ne ne]; exact h) (r.mono M)
      | ins h r => exact .ins (by rw [upd_ne ne]; exact h) (r.mono M)
  · by_cases hb : c = a
    · rw [hb, upd_same]; simp
    · rw [upd_ne hb]; exact rel.trk c (.inl hc)
/-- what stands behind a name of its own -/
theorem Rel.named {g : G} {ρ : Loc} {S : Store} {σ : St} {H : Hp} {n : Nat} {fl : Fl} {v : V} (rel : Rel w g ρ S σ H) (h : Arg w g.m g.Z H (.obj n, fl) v) : ∃ a, v = .ref a ∧ g.m[n]? = some a := by
  rcases h.read.look with l | ⟨a, e, b⟩
  · cases l with
    | box b => cases b
    | obj hq => exact ⟨_, rfl, hq⟩
  · cases b
theorem StepE.at_ {m m' : List Addr} {H H' : Hp} (s : StepE m H m' H') {n : Nat} {a : Addr} (h : m[n]? = some a) : m'[n]? = some a := by
  obtain ⟨ex, rfl, _⟩ := s.ms
  rw [List.getElem?_append_left (List.getElem?_eq_some_iff.mp h).1]
  exact h
/-- a new box gets a name of its own -/
def sNew (f : SE) : SE := fun ρ S => (f ρ S).bind fun r S1 => if r.2 = .own then .ok (.obj S1.length, .sh) (S1 ++ [r.1]) else .bad
theorem e_new {e : Expr} {f : SE} (h : PE X e (rdE w W f)) : PE X e (rdE w W (sNew f)) := by
  refine PE.imp h fun σ H Q ⟨g, ρ, S, rel, h⟩ => ?_
  refine rdE_imp (bindE0 rel h goodE) fun v H1 ⟨r1, S1, m1, s1, rel1, res1, h1⟩ => ?_
  obtain ⟨d, fl⟩ := r1
  split at h1
  rotate_left
  · exact h1.elim
  rename_i c
  cases c
  obtain ⟨a, rfl, hn, nm, nz, b, sto⟩ := res1
  have nm1 : a ∉ m1 := nm
  have M : Mono m1 (fun c => g.Z c ∨ c = a) H1 (m1 ++ [a]) g.Z H1 := {
    tup := fun _ _ h => h
    box := fun b u _ h z n => ⟨h, fun q => z (.inl q), fun q => (List.mem_append.mp q).elim n fun q => z (.inr (List.mem_singleton.mp q))⟩
    exa := fun b u _ h z n => ⟨h, fun q => z (.inl q), fun q => (List.mem_append.mp q).elim n fun q => z (.inr (List.mem_singleton.mp q))⟩
    frl := fun _ _ _ h => h
    exc := fun _ _ _ h => h
    xd := fun _ _ h => h
    obj := fun n b h => by rw [List.getElem?_append_left (List.getElem?_eq_some_iff.mp h).1]; exact h }
  have bw : ∀ {d : D} {c : Addr}, BoxW w m1 (fun c => g.Z c ∨ c = a) H1 d c → BoxW w (m1 ++ [a]) g.Z H1 d c := fun b => by
    cases b with
    | lst h r => exact .lst h (r.mono M)
    | dk h r => exact .dk h (r.mono M)
    | dt h r => exact .dt h (r.mono M)
    | ins h r => exact .ins h (r.mono M)
  have s2 : StepE g.m H (m1 ++ [a]) H1 := by
    refine ⟨s1.keep, s1.grow, ?_⟩
    obtain ⟨ex, e, hx⟩ := s1.ms
    refine ⟨ex ++ [a], by rw [e, List.append_assoc], fun c hc => ?_⟩
    rcases List.mem_append.mp hc with q | q
    · exact hx c q
    · rw [List.mem_singleton.mp q]; exact hn
  have hl : S1.length = m1.length := sto.len
  have rel2 : Rel w (g.at (m1 ++ [a])) ρ (S1 ++ [d]) σ H1 := by
    refine rel.step s2 ⟨by simp [hl], fun k e q => ?_⟩ ?_ fun c hc => ?_
    · by_cases hk : k < S1.length
      · rw [List.getElem?_append_left hk] at q
        obtain ⟨c, hc, bx⟩ := sto.at_ k e q
        exact ⟨c, by rw [List.getElem?_append_left (by rw [← hl]; exact hk)]; exact hc, bw bx⟩
      · have hk2 : k = S1.length := by
          have := (List.getElem?_eq_some_iff.mp q).1
          simp at this; omega
        subst hk2
        rw [List.getElem?_append_right (Nat.le_refl _)] at q
        simp at q
        subst q
        exact ⟨a, by rw [List.getElem?_append_right (by omega)]; simp [hl], bw b⟩
    · exact List.nodup_append.mpr ⟨rel1.nd, by simp, fun x hx y hy => by rw [List.mem_singleton.mp hy]; exact fun z => nm1 (z ▸ hx)⟩
    · rcases List.mem_append.mp hc with q | q
      · exact rel1.trk c (.inl q)
      · rw [List.mem_singleton.mp q]; exact b.ne
  refine h1 _ _ ⟨m1 ++ [a], s2, rel2, ?_⟩
  exact .obj (by rw [List.getElem?_append_right (by omega)]; simp [hl])
/-! ### dict items -/
theorem key_deq {a b : D} {p q : Key} (ha : dKey a = some p) (hb : dKey b = some q) : deq a b = decide (p = q) := by
  cases a with
  | int i =>
    cases ha
    cases b with
    | int j =>
      cases hb
      simp only [deq]
      by_cases h : i = j
      · subst h; simp
      · rw [beq_eq_false_iff_ne.mpr h]
        symm
        rw [decide_eq_false_iff_not]
        exact fun e => h (Sum.inl.inj e)
    | str y => cases hb; simp [deq]
    | _ => cases hb
  | str x =>
    cases ha
    cases b with
    | int j => cases hb; simp [deq]
    | str y =>
      cases hb
      simp only [deq]
      by_cases h : x = y
      · subst h; simp
      · rw [beq_eq_false_iff_ne.mpr h]
        symm
        rw [decide_eq_false_iff_not]
        exact fun e => h (s2_inj (Sum.inr.inj e))
    | _ => cases hb
  | _ => cases ha
def setK (kvs : List (D × D)) (k d : D) : List (D × D) := if (kvs.any fun p => deq p.1 k) = true then kvs.map (fun p => if deq p.1 k = true then (p.1, d) else p) else kvs ++ [(k, d)]
theorem getK_nil {k : D} : getK [] k = none := rfl
theorem getK_cons {a d k : D} {kvs : List (D × D)} : getK ((a, d) :: kvs) k = if deq a k = true then some d else getK kvs k := by
  unfold getK
  rw [List.find?_cons]
  cases deq a k <;> rfl
theorem RepK.get {m : List Addr} {Z : Addr → Prop} {H : Hp} {k : D} {q : Key} (hk : dKey k = some q) : ∀ {kvs : List (D × D)} {ks : List (Key × V)}, RepK w m Z H kvs ks →
    (getK kvs k = none → valV ks q = none) ∧ ∀ d, getK kvs k = some d → ∃ v, valV ks q = some v ∧ Rep w m Z H d v
  | _, _, .nil => ⟨fun _ => rfl, fun _ e => by cases e⟩
  | _, _, .cons (k := a) (d := e) (q := p) (v := v) (kvs := kvs) (ks := ks) ha hv r => by
    have ih := RepK.get hk r
    rw [getK_cons, key_deq ha hk]
    by_cases h : p = q
    · rw [valV_pos (by exact h)]
      simp only [h, decide_true, if_true]
      refine ⟨fun z => ?_, fun d z => ?_⟩
      · cases z
      · cases z
        exact ⟨v, rfl, hv⟩
    · rw [valV_neg (by exact h)]
      simpa [h] using ih
theorem RepK.any {m : List Addr} {Z : Addr → Prop} {H : Hp} {k : D} {q : Key} (hk : dKey k = some q) : ∀ {kvs : List (D × D)} {ks : List (Key × V)}, RepK w m Z H kvs ks → (kvs.any fun p => deq p.1 k) = ks.any fun kv => decide (kv.1 = q)
  | _, _, .nil => rfl
  | _, _, .cons ha hv r => by rw [List.any_cons, List.any_cons, key_deq ha hk, RepK.any hk r]
theorem RepK.length {m : List Addr} {Z : Addr → Prop} {H : Hp} : ∀ {kvs : List (D × D)} {ks : List (Key × V)}, RepK w m Z H kvs ks → kvs.length = ks.length
  | _, _, .nil => rfl
  | _, _, .cons _ _ r => by rw [List.length_cons, List.length_cons, RepK.length r]
theorem RepK.map {m : List Addr} {Z : Addr → Prop} {H : Hp} {k d : D} {q : Key} {v : V} (hk : dKey k = some q) (hv : Rep w m Z H d v) : ∀ {kvs : List (D × D)} {ks : List (Key × V)}, RepK w m Z H kvs ks →
    RepK w m Z H (kvs.map fun p => if deq p.1 k = true then (p.1, d) else p) (ks.map fun kv => if kv.1 = q then (kv.1, v) else kv)
  | _, _, .nil => .nil
  | _, _, .cons (k := a) (d := e) (q := p) (v := u) ha hu r => by
    rw [List.map_cons, List.map_cons]
    have ih := RepK.map hk hv r
    rw [key_deq ha hk]
    by_cases h : p = q
    · simp only [h, decide_true, if_true]
      exact .cons (h ▸ ha) hv ih
    · simp only [h, decide_false, if_false, Bool.false_eq_true]
      exact .cons ha hu ih
theorem RepK.app {m : List Addr} {Z : Addr → Prop} {H : Hp} : ∀ {kvs es : List (D × D)} {ks fs : List (Key × V)}, RepK w m Z H kvs ks → RepK w m Z H es fs → RepK w m Z H (kvs ++ es) (ks ++ fs)
  | _, _, _, _, .nil, h => h
  | _, _, _, _, .cons a b r, h => .cons a b (RepK.app r h)
theorem RepK.put {m : List Addr} {Z : Addr → Prop} {H : Hp} {kvs : List (D × D)} {ks : List (Key × V)} {k d : D} {q : Key} {v : V} (r : RepK w m Z H kvs ks) (hk : dKey k = some q) (hv : Rep w m Z H d v) : RepK w m Z H (setK kvs k d) (putK ks q v) := by
  unfold setK putK
  rw [RepK.any hk r]
  split
  · exact r.map hk hv
  · exact r.app (.cons hk hv .nil)
/-- a dict that is read -/
theorem Look.dk {m : List Addr} {Z : Addr → Prop} {H : Hp} {kvs : List (D × D)} {v : V} (h : Look w m Z H (.dk kvs) v) : ∃ a ks, v = .ref a ∧ Rd H a (.dK ks) ∧ RepK w m Z H kvs ks := by
  rcases h with h | ⟨a, e, b⟩
  · cases h with
    | box b z n => cases b with | dk hr r => exact ⟨_, _, rfl, hr, r⟩
  · cases b with | dk hr r => exact ⟨_, _, e, hr, r⟩
theorem key_of {m : List Addr} {Z : Addr → Prop} {H : Hp} {k : D} {q : Key} {v : V} (h : Look w m Z H k v) (e : dKey k = some q) : v = kV q := by
  cases k with
  | int i => cases e; exact h.int
  | str x => cases e; exact h.str
  | _ => cases e
def rDG : R2 := fun x y H Q => ∃ a v, x = .ref a ∧ DGet H a y (some v) ∧ Q v H
def oDGet (a b : RV) (S : Store) : Option RV := match view S a.1 with
  | .dk kvs => if (dKey b.1).isSome = true then (getK kvs b.1).map fun d => (d, .sh) else none
  | _ => none
theorem ok_dget : OkOp2 w rDG oDGet := by
  intro g ρ S σ H a b x y q Q rel ha hb e k
  unfold oDGet at e
  split at e
  · rename_i kvs hd
    split at e
    · rename_i c
      obtain ⟨p, hp⟩ := Option.isSome_iff_exists.mp c
      obtain ⟨d, e1, rfl⟩ := Option.map_eq_some_iff.mp e
      have l := look_view rel ha
      rw [hd] at l
      obtain ⟨t, ks, rfl, hr, r⟩ := l.dk
      obtain ⟨v, hv, rv⟩ := (r.get hp).2 d e1
      exact ⟨t, v, rfl, .inl ⟨ks, p, hr, key_of hb.read.look hp, hv.symm⟩, k _ _ (.same rel rv)⟩
    · cases e
  · cases e
/-- o[i], a row's item or a dict's -/
def oItem (a b : RV) (S : Store) : Option RV := (oDGet a b S).or (oIdx a b S)
theorem PE.or {e : Expr} {t t' : TE} (h : PE X e t) (h' : PE X e t') : PE X e (fun σ H Q => t σ H Q ∨ t' σ H Q) := ⟨fun pins s σ H Q I q => q.elim (h.run pins s σ H Q I) (h'.run pins s σ H Q I)⟩
theorem e_dget {o i : Expr} {f u : SE} {pos : Pos} (hu : X.A.units + 1 < cLine) (hs : NoSl i) (ho : PE X o (rdE w W f)) (hi : PE X i (rdE w W u)) : PE X (.Subscript o i pos) (rdE w W (sOp2 oDGet f u)) :=
  PE.imp (pe_dget hu ho hi hs) fun _ _ _ h => rd_op2 (r := rDG) ok_dget h
def sGet2 (f k u : SE) : SE := fun ρ S => (f ρ S).bind fun o S1 => match o.1 with
  | .dk kvs => (k ρ S1).bind fun y S2 => (u ρ S2).bind fun z S3 => if (dKey y.1).isSome = true then (match getK kvs y.1 with | some d => .ok (d, .sh) S3 | none => if leakOk z = true then .ok (z.1, .sh) S3 else .bad) else .bad
  | _ => .bad
theorem Look.isD {m m' : List Addr} {Z : Addr → Prop} {H : Hp} {kvs : List (D × D)} {v : V} (h : Look w m Z H (.dk kvs) v) : ∃ a, v = .ref a ∧ IsD H a := by
  obtain ⟨a, ks, e, r, _⟩ := h.dk
  exact ⟨a, e, .inl ⟨ks, r⟩⟩
/-- d.get(k, x), d a value -/
theorem e_get2 {o e f : Expr} {fo fk fx : SE} {apos cpos : Pos} (hu : X.A.units + 1 < cLine) (m : M2 X o "get" apos e f cpos) (ho : PE X o (rdE w W fo)) (he : PE X e (rdE w W fk)) (hf : PE X f (rdE w W fx)) :
    PE X (.Call (.Attribute o "get" apos) [e, f] [] cpos) (rdE w W (sGet2 fo fk fx)) := by
  refine PE.imp (pe_dget2 hu ho he hf m) fun σ H Q ⟨g, ρ, S, rel, h⟩ => ?_
  refine rdE_imp (bindE rel h goodE) fun x H1 ⟨r1, S1, m1, s1, rel1, res1, _, h1⟩ => ?_
  split at h1
  rotate_left
  · exact h1.elim
  rename_i kvs ed
  have l0 := res1.arg.read.look
  rw [ed] at l0
  obtain ⟨a, rfl, isd⟩ := l0.isD (m' := m1)
  refine ⟨a, rfl, isd, ?_⟩
  refine rdE_imp (bindE rel1 h1 goodE) fun y H2 ⟨r2, S2, m2, s2, rel2, res2, _, h2⟩ => ?_
  refine rdE_imp (bindE rel2 h2 goodE) fun z H3 ⟨r3, S3, m3, s3, rel3, res3, _, h3⟩ => ?_
  split at h3
  rotate_left
  · exact h3.elim
  rename_i c
  obtain ⟨p, hp⟩ := Option.isSome_iff_exists.mp c
  have l : Look w m3 g.Z H3 r1.1 (.ref a) := (s3.arg (s2.arg res1.arg)).read.look
  rw [ed] at l
  obtain ⟨t, ks, e, hr, r⟩ := l.dk
  cases e
  have hy : y = kV p := key_of (s3.arg res2.arg).read.look hp
  split at h3
  · rename_i d e1
    obtain ⟨v, hv, rv⟩ := (r.get hp).2 d e1
    exact ⟨some v, .inl ⟨ks, p, hr, hy, hv.symm⟩, h3 _ _ (.same rel3 rv)⟩
  · rename_i e1
    split at h3
    · rename_i lk
      exact ⟨none, .inl ⟨ks, p, hr, hy, ((r.get hp).1 e1).symm⟩, h3 _ _ (.same rel3 (res3.arg.rep lk))⟩
    · exact h3.elim
/-- o[k] = v, o a dict with a name of its own -/
def sPut (fo fk fv : SE) : SS := fun ρ S => goS (fv ρ S) ρ fun v S1 => goS (fo ρ S1) ρ fun o S2 => goS (fk ρ S2) ρ fun k S3 => match o.1 with
  | .obj n => match S3[n]? with
    | some (.dk kvs) => if leakOk v = true ∧ (dKey k.1).isSome = true ∧ kvs.length < sizeLine then .nx ρ (S3.set n (.dk (setK kvs k.1 v.1))) else .bad
    | _ => .bad
  | _ => .bad
theorem st_put {o i value : Expr} {fo fk fv : SE} {pos pos' : Pos} (hu : X.A.units + 1 < cLine) (hs : swapsWith value (some (.Subscript o i pos')) pos.line X.env = pure false) (ho : PE X o (rdE w W fo)) (hi : PE X i (rdE w W fk)) (hv : PE X value (rdE w W fv)) :
    PS X (.Assign [.Subscript o i pos'] value pos) (rdS w W (sPut fo fk fv)) := by
  refine PS.imp (ps_dput hu ho hi hv hs) fun D σ H ⟨g, ρ, S, rel, h⟩ => ?_
  refine rdE_imp (bindE rel h goodS) fun v H1 ⟨r1, S1, m1, s1, rel1, res1, _, h1⟩ => ?_
  refine rdE_imp (bindE rel1 h1 goodS) fun x H2 ⟨r2, S2, m2, s2, rel2, res2, _, h2⟩ => ?_
  refine rdE_imp (bindE rel2 h2 goodS) fun y H3 ⟨r3, S3, m3, s3, rel3, res3, _, h3⟩ => ?_
  split at h3
  rotate_left
  · exact h3.elim
  rename_i n eo
  split at h3
  rotate_left
  · exact h3.elim
  rename_i kvs es
  split at h3
  rotate_left
  · exact h3.elim
  rename_i c
  obtain ⟨lk, ks, hz⟩ := c
  obtain ⟨q, hq⟩ := Option.isSome_iff_exists.mp ks
  have a2 := s3.arg res2.arg
  obtain ⟨d2, fl2⟩ := r2
  cases eo
  obtain ⟨a, rfl, ha⟩ := rel3.named a2
  obtain ⟨a', ha', bx⟩ := rel3.sto.at_ n _ es
  have e : a' = a := by rw [ha] at ha'; exact (Option.some.inj ha').symm
  subst e
  cases bx with
  | dk hd r =>
    have rv := (s3.arg (s2.arg res1.arg)).rep lk
    have am : a' ∈ m3 := List.mem_of_getElem? ha
    have nf : ∀ u, H3 a' = some u → ¬ fixO a' u := fun u e q => by
      rw [hd] at e
      cases e
      rcases q with ⟨_, q⟩ | ⟨_, _, q⟩ | ⟨_, q⟩ | ⟨_, _, q⟩ <;> first | cases q | (unfold ExcO at q; cases q)
    have sm : ∀ o, Mono m3 g.Z H3 m3 g.Z (upd H3 a' o) := fun o => {
      tup := fun b xs h => by
        rw [upd_ne (fun z => by rw [z, hd] at h; cases h)]; exact h
      box := fun b u _ h z n => ⟨by have ne : b ≠ a' := (fun z => n (z ▸ am)); unfold Rd; rw [upd_ne ne]; exact h, z, n⟩
      exa := fun b u _ h z n => ⟨by have ne : b ≠ a' := (fun z => n (z ▸ am)); rw [upd_ne ne]; exact h, z, n⟩
      frl := fun b ob xs h => by
        rw [upd_ne (fun z => by rw [z, hd] at h; cases h)]; exact h
      exc := fun b cls dd h => by
        rw [upd_ne (fun z => by subst z; rw [hd] at h; unfold ExcO at h; cases h)]; exact h
      xd := fun b gs h => by
        rw [upd_ne (fun z => by rw [z, hd] at h; cases h)]; exact h
      obj := fun _ _ h => h }
    obtain ⟨s4, rel4⟩ := rel3.poke (d := .dk (setK kvs r3.1 r1.1)) (o := .dK (putK _ q v)) ha nf (.dk upd_same ((r.put hq rv).mono (sm _)))
    exact ⟨a', _, rfl, .inl ⟨_, q, hd, key_of res3.arg.read.look hq, by rw [← r.length]; exact hz, rfl⟩, h3 _ _ ⟨_, s4.toS, rel4⟩⟩
end
end DL

set_option maxRecDepth 100000
/-! The value layer: dict displays; lists with a name of their own. -/
namespace DL
open PySem L2
section
variable {w : Wd} {W : WX} {X : Cx}
/-! ### displays -/
def prI : List (SE × SE) → Loc → Store → R (List (D × D))
  | [], _, S => .ok [] S
  | (f, u) :: r, ρ, S => (f ρ S).go (fun _ _ => .bad) .bad fun k S1 => (u ρ S1).go (fun _ _ => .bad) .bad fun v S2 =>
      if (dKey k.1).isSome = true ∧ leakOk v = true then (prI r ρ S2).bind fun ps S3 => .ok ((k.1, v.1) :: ps) S3 else .bad
def mergeD (kvs more : List (D × D)) : List (D × D) := more.foldl (fun acc kv => setK acc kv.1 kv.2) kvs
def sDict (ps : List (SE × SE)) : SE := fun ρ S => (prI ps ρ S).go (fun _ _ => .bad) .bad fun kvs S1 => if kvs.length ≤ 15 then .ok (.dk (mergeD [] kvs), .own) S1 else .bad
def trs (w : Wd) (W : WX) (ps : List (SE × SE)) : List (TE × TE) := ps.map fun p => (rdE w W p.1, rdE w W p.2)
theorem d_nil {pos : Pos} : PPs X pos [] [] (trs w W []) := pps_nil
theorem d_cons {pos : Pos} {k v : Expr} {ks : List (Option Expr)} {vs : List Expr} {f u : SE} {ps : List (SE × SE)} (hk : PE X k (rdE w W f)) (hv : PE X v (rdE w W u)) (hr : PPs X pos ks vs (trs w W ps)) : PPs X pos (some k :: ks) (v :: vs) (trs w W ((f, u) :: ps)) :=
  pps_cons hk hv hr
theorem rd_pairs {ρ : Loc} {σ : St} : ∀ (ps : List (SE × SE)) {g : G} {S S' : Store} {H : Hp} {kvs : List (D × D)} {Q : List (V × V) → Hp → Prop}, Rel w g ρ S σ H → prI ps ρ S = .ok kvs S' →
    (∀ ks H' m', StepE g.m H m' H' → Rel w (g.at m') ρ S' σ H' → RepK w m' g.Z H' kvs ks → Q (ks.map fun kv => (kV kv.1, kv.2)) H') → tPairs (trs w W ps) σ H Q
  | [], g, S, S', H, kvs, Q, rel, e, hq => by
    cases e
    exact hq [] H g.m (.refl _ _) rel .nil
  | (f, u) :: r, g, S, S', H, kvs, Q, rel, e, hq => by
    rw [prI] at e
    show rdE w W f σ H fun x H1 => rdE w W u σ H1 fun y H2 => tPairs (trs w W r) σ H2 fun ps H3 => Q ((x, y) :: ps) H3
    refine ⟨g, ρ, S, rel, ?_⟩
    cases e1 : f ρ S with
    | exc z S1 => rw [e1] at e; cases e
    | bad => rw [e1] at e; cases e
    | ok k S1 =>
      rw [e1] at e
      simp only [R.go] at e
      refine fun x H1 ⟨m1, s1, rel1, res1⟩ => ⟨g.at m1, ρ, S1, rel1, ?_⟩
      cases e2 : u ρ S1 with
      | exc z S2 => rw [e2] at e; cases e
      | bad => rw [e2] at e; cases e
      | ok v S2 =>
        rw [e2] at e
        simp only [R.go] at e
        refine fun y H2 ⟨m2, s2, rel2, res2⟩ => ?_
        split at e
        rotate_left
        · cases e
        rename_i c
        obtain ⟨q, hk⟩ := Option.isSome_iff_exists.mp c.1
        cases e3 : prI r ρ S2 with
        | exc z S3 => rw [e3] at e; cases e
        | bad => rw [e3] at e; cases e
        | ok es S3 =>
          rw [e3] at e
          cases e
          refine rd_pairs r (g := g.at m2) rel2 e3 fun ks H' m' s3 rel3 rk => ?_
          have hx : x = kV q := key_of (s2.arg res1.arg).read.look hk
          have := hq ((q, y) :: ks) H' m' (s1.trans (s2.trans s3)) rel3 (.cons hk (s3.rep (res2.arg.rep c.2)) rk)
          rw [hx]
          exact this
theorem RepK.merge {m : List Addr} {Z : Addr → Prop} {H : Hp} : ∀ {more : List (D × D)} {ks : List (Key × V)} {acc : List (D × D)} {as : List (Key × V)}, RepK w m Z H more ks → RepK w m Z H acc as → RepK w m Z H (mergeD acc more) (mergeK as ks)
  | _, _, _, _, .nil, h => h
  | _, _, acc, as, .cons (k := k) (d := d) (q := q) (v := v) hk hv r, h => RepK.merge (acc := setK acc k d) (as := putK as q v) r (h.put hk hv)
theorem e_dict {ps : List (SE × SE)} {pos : Pos} {keys : List (Option Expr)} {values : List Expr} (hall : keys.all (·.isSome) = true) (hl : keys.length = values.length) (h0 : keys ≠ []) (h15 : keys.length ≤ 15) (h : PPs X pos keys values (trs w W ps)) :
    PE X (.Dict keys values pos) (rdE w W (sDict ps)) := by
  refine PE.imp (pe_disp h hall hl h0 h15) fun σ H Q ⟨g, ρ, S, rel, h⟩ => ?_
  intro p hp
  unfold sDict at h
  cases e : prI ps ρ S with
  | exc z S3 => rw [e] at h; exact h.elim
  | bad => rw [e] at h; exact h.elim
  | ok kvs S1 =>
    rw [e] at h
    simp only [R.go] at h
    split at h
    rotate_left
    · exact h.elim
    rename_i hz
    have s0 : StepE g.m H g.m (upd H p (.dK [])) := .new hp
    have np : p ∉ g.m := fun q => rel.trk p (.inl q) hp
    have nz : ¬ g.Z p := fun q => rel.trk p (.inr q) hp
    have sto0 : Stored w g.m (fun b => g.Z b ∨ b = p) (upd H p (.dK [])) S := by
      have q : Stored w g.m (fun b => g.Z b ∨ b = p) H S := rel.sto.less fun b q => q.imp id fun q => by rw [q]; exact hp
      exact q.step s0 fun b hb => upd_ne fun z => np (by rw [← z]; exact hb)
    have rel0 : Rel w (g.off g.m p) ρ S σ (upd H p (.dK [])) := rel.stepOff s0 hp (by rw [upd_same]; simp) np sto0 rel.nd fun b hb => (rel.new (o := .dK []) hp).trk b (.inl hb)
    refine rd_pairs ps rel0 e fun ks H2 m2 s2 rel2 rk => ?_
    have hl2 : H2 p = some (.dK []) := s2.keep _ _ upd_same (.inl np) (fun _ q => by cases q)
    have nm2 : p ∉ m2 := s2.notm (by rw [upd_same]; simp) np
    refine ⟨hl2, ks, rfl, by rw [← rk.length]; exact hz, ?_⟩
    have s02 : StepE g.m H m2 H2 := s0.trans s2
    have MZ : Mono m2 (fun b => g.Z b ∨ b = p) H2 m2 (fun b => g.Z b ∨ b = p) (upd H2 p (.dK (mergeK [] ks))) := mono_upd (.inr rfl) (fun _ q => by rw [hl2] at q; cases q) (fun _ _ q => by rw [hl2] at q; cases q) (fun _ _ q => by rw [hl2] at q; cases q) fun _ q => by rw [hl2] at q; cases q
    have hm : ∀ b ∈ m2, upd H2 p (.dK (mergeK [] ks)) b = H2 b := fun b hb => upd_ne fun z => nm2 (by rw [← z]; exact hb)
    have sto2 : Stored w m2 (fun b => g.Z b ∨ b = p) (upd H2 p (.dK (mergeK [] ks))) S1 := by
      have q : Stored w m2 (fun b => g.Z b ∨ b = p) H2 S1 := rel2.sto.less fun b q => .inl ((G.off_Z b).mpr q)
      exact q.monoH MZ hm
    have s3 : StepE g.m H m2 (upd H2 p (.dK (mergeK [] ks))) := by
      refine ⟨fun b o h q t => ?_, fun b q => ?_, s02.ms⟩
      · have : b ≠ p := fun z => by rw [z, hp] at h; cases h
        rw [upd_ne this]
        exact s02.keep b o h q t
      · by_cases z : b = p
        · rw [z]; exact hp
        · rw [upd_ne z] at q; exact s02.grow b q
    refine h _ _ ⟨m2, s3, ?_, p, rfl, hp, nm2, nz, .dk upd_same ((RepK.merge (rk.mono off_mono) .nil).mono MZ), sto2⟩
    exact rel.step s3 (sto2.less fun b q => .inl (.inl q)) rel2.nd fun b hb => by rw [hm b hb]; exact rel2.trk b (.inl hb)

/-! ### x.pop(i), x.append(e): x a list with a name of its own -/
/-- the change of a list with a name -/
theorem Rel.pokeL {g : G} {ρ : Loc} {S : Store} {σ : St} {H : Hp} {n : Nat} {a : Addr} {es : List D} {vs us : List V} (rel : Rel w g ρ S σ H) (ha : g.m[n]? = some a) (hd : H a = some (.lst vs)) (r : Reps w g.m g.Z H es us) :
    StepE g.m H g.m (upd H a (.lst us)) ∧ Rel w g ρ (S.set n (.lst es)) σ (upd H a (.lst us)) ∧ Mono g.m g.Z H g.m g.Z (upd H a (.lst us)) := by
  have am : a ∈ g.m := List.mem_of_getElem? ha
  have nf : ∀ u, H a = some u → ¬ fixO a u := fun u e q => by
    rw [hd] at e
    cases e
    rcases q with ⟨_, q⟩ | ⟨_, _, q⟩ | ⟨_, q⟩ | ⟨_, _, q⟩ <;> first | cases q | (unfold ExcO at q; cases q)
  have sm : Mono g.m g.Z H g.m g.Z (upd H a (.lst us)) := {
    tup := fun b xs h => by
      rw [upd_ne (fun z => by rw [z, hd] at h; cases h)]; exact h
    box := fun b u _ h z n => ⟨by have ne : b ≠ a := (fun z => n (z ▸ am)); unfold Rd; rw [upd_ne ne]; exact h, z, n⟩
    exa := fun b u _ h z n => ⟨by have ne : b ≠ a := (fun z => n (z ▸ am)); rw [upd_ne ne]; exact h, z, n⟩
    frl := fun b ob xs h => by
      rw [upd_ne (fun z => by rw [z, hd] at h; cases h)]; exact h
    exc := fun b cls dd h => by
      rw [upd_ne (fun z => by subst z; rw [hd] at h; unfold ExcO at h; cases h)]; exact h
    xd := fun b gs h => by
      rw [upd_ne (fun z => by rw [z, hd] at h; cases h)]; exact h
    obj := fun _ _ h => h }
  obtain ⟨s4, rel4⟩ := rel.poke (d := .lst es) (o := .lst us) ha nf (.lst upd_same (r.mono sm))
  exact ⟨s4, rel4, sm⟩
theorem Reps.erase {m : List Addr} {Z : Addr → Prop} {H : Hp} : ∀ {ds : List D} {vs : List V} (k : Nat), Reps w m Z H ds vs → Reps w m Z H (ds.eraseIdx k) (vs.eraseIdx k)
  | _, _, _, .nil => .nil
  | _, _, 0, .cons _ r => r
  | _, _, k + 1, .cons h r => .cons h (Reps.erase k r)
def sPopO (f : SE) (fs : SA) : SE := fun ρ S => (f ρ S).bind fun o S1 => match o.1 with
  | .obj n => match S1[n]? with
    | some (.lst _) => (fs ρ S1).bind fun is S2 => match is, S2[n]? with
      | [(.int j, _)], some (.lst ds) => match ixN ds.length j with
        | some k => if ds.length < 2 ^ 62 then .ok (ds.getD k .non, .sh) (S2.set n (.lst (ds.eraseIdx k))) else .bad
        | none => .bad
      | _, _ => .bad
    | _ => .bad
  | _ => .bad
/-- a method call on one line, few arguments -/
structure MC (X : Cx) (o : Expr) (x : Str) (apos : Pos) (e : Expr) (es : List Expr) (cpos : Pos) : Prop where
  base : attributeBase o x X.env (eval o X.env) = eval o X.env
  few : ((backTo cpos (starEach (e :: es) X.env)).all (fun x => !x.1) && (backToKw cpos (keywordEach [] X.env)).all (fun x => x.1.isSome) && decide ((e :: es).length + ([] : List Keyword).length + (if ([] : List Keyword).isEmpty then 0 else 1) < 30)) = true
  line : (apos.endLine == cpos.line) = true
  star : starEach (e :: es) X.env = (false, eval e X.env) :: starEach es X.env
  plain : (backTo cpos (starEach es X.env)).any (·.1) = false
theorem named_lst {g : G} {ρ : Loc} {S : Store} {σ : St} {H : Hp} {n : Nat} {fl : Fl} {v : V} {ds : List D} (rel : Rel w g ρ S σ H) (h : Arg w g.m g.Z H (.obj n, fl) v) (e : S[n]? = some (.lst ds)) : ∃ a vs, v = .ref a ∧ g.m[n]? = some a ∧ H a = some (.lst vs) ∧ Reps w g.m g.Z H ds vs := by
  obtain ⟨a, rfl, ha⟩ := rel.named h
  obtain ⟨a', ha', bx⟩ := rel.sto.at_ n _ e
  have ea : a' = a := by rw [ha] at ha'; exact (Option.some.inj ha').symm
  subst ea
  cases bx with
  | lst hq r => exact ⟨a', _, rfl, ha, hq, r⟩
theorem e_popO {o e : Expr} {es : List Expr} {f : SE} {fs : SA} {apos cpos : Pos} (ho : PE X o (rdE w W f)) (ha : PA X (e :: es) (rdA w W fs)) (mc : MC X o "pop" apos e es cpos) :
    PE X (.Call (.Attribute o "pop" apos) (e :: es) [] cpos) (rdE w W (sPopO f fs)) := by
  refine PE.imp (pe_bm PySem.F.plainAttrs_list PySem.F.slot_list_pop PySem.F.type_list_pop mt_popAt ho ha mc.base mc.few mc.line mc.star mc.plain) fun σ H Q ⟨g, ρ, S, rel, h⟩ => ?_
  refine rdE_imp (bindE rel h goodE) fun x H1 ⟨r1, S1, m1, s1, rel1, res1, _, h1⟩ => ?_
  obtain ⟨d1, fl1⟩ := r1
  split at h1
  rotate_left
  · exact h1.elim
  rename_i n eo
  cases eo
  split at h1
  rotate_left
  · exact h1.elim
  rename_i ds0 es0
  obtain ⟨a, vs0, rfl, ha, hl0, _⟩ := named_lst rel1 res1.arg es0
  refine ⟨.inl ⟨rfl, vs0, .of hl0⟩, ?_⟩
  refine rdA_imp (bindA rel1 h1 goodE) fun xs H2 ⟨rs, S2, m2, s2', rel2, as, _, h2⟩ => ?_
  split at h2
  rotate_left
  · exact h2.elim
  rename_i j fl ds es2 _
  split at h2
  rotate_left
  · exact h2.elim
  rename_i k hk
  split at h2
  rotate_left
  · exact h2.elim
  rename_i hz
  cases as with
  | cons q t =>
    cases t
    obtain ⟨a', vs, ev, ha2, hl2, r⟩ := named_lst rel2 (s2'.arg res1.arg) es2
    cases ev
    obtain ⟨i1, i2, i3, i4⟩ := ixN_seq hk
    have hd : ds[k]? = some (ds.getD k .non) := by simp [i2]
    obtain ⟨y, hy, ry⟩ := r.get hd
    obtain ⟨s4, rel4, sm⟩ := rel2.pokeL ha2 hl2 (r.erase k)
    have hlen := r.length
    refine ⟨a, vs, j, k, y, rfl, by rw [q.int], hl2, by omega, by omega, by rw [← hlen]; exact i1, hy, h2 _ _ ⟨m2, s4, rel4, ?_⟩⟩
    exact ry.mono sm
def sAppO (f : SE) (fs : SA) : SE := fun ρ S => (f ρ S).bind fun o S1 => match o.1 with
  | .obj n => match S1[n]? with
    | some (.lst _) => (fs ρ S1).bind fun is S2 => match is, S2[n]? with
      | [r], some (.lst ds) => if leakOk r = true ∧ ds.length < sizeLine then .ok (.non, .sh) (S2.set n (.lst (ds ++ [r.1]))) else .bad
      | _, _ => .bad
    | _ => .bad
  | _ => .bad
theorem e_appO {o e : Expr} {es : List Expr} {f : SE} {fs : SA} {apos cpos : Pos} (ho : PE X o (rdE w W f)) (ha : PA X (e :: es) (rdA w W fs)) (mc : MC X o "append" apos e es cpos) :
    PE X (.Call (.Attribute o "append" apos) (e :: es) [] cpos) (rdE w W (sAppO f fs)) := by
  refine PE.imp (pe_bm PySem.F.plainAttrs_list PySem.F.slot_list_append PySem.F.type_list_append mt_append ho ha mc.base mc.few mc.line mc.star mc.plain) fun σ H Q ⟨g, ρ, S, rel, h⟩ => ?_
  refine rdE_imp (bindE rel h goodE) fun x H1 ⟨r1, S1, m1, s1, rel1, res1, _, h1⟩ => ?_
  obtain ⟨d1, fl1⟩ := r1
  split at h1
  rotate_left
  · exact h1.elim
  rename_i n eo
  cases eo
  split at h1
  rotate_left
  · exact h1.elim
  rename_i ds0 es0
  obtain ⟨a, vs0, rfl, ha, hl0, _⟩ := named_lst rel1 res1.arg es0
  refine ⟨.inl ⟨rfl, vs0, .of hl0⟩, ?_⟩
  refine rdA_imp (bindA rel1 h1 goodE) fun xs H2 ⟨rs, S2, m2, s2', rel2, as, _, h2⟩ => ?_
  split at h2
  rotate_left
  · exact h2.elim
  rename_i r0 ds es2 _
  split at h2
  rotate_left
  · exact h2.elim
  rename_i c
  cases as with
  | cons q t =>
    cases t
    obtain ⟨a', vs, ev, ha2, hl2, r⟩ := named_lst rel2 (s2'.arg res1.arg) es2
    cases ev
    obtain ⟨s4, rel4, sm⟩ := rel2.pokeL ha2 hl2 (r.snoc (q.rep c.1))
    have hlen := r.length
    exact ⟨a, vs, _, rfl, rfl, hl2, by omega, h2 _ _ ⟨m2, s4, rel4, .non⟩⟩
end
end DL

set_option maxRecDepth 100000
/-! The value layer: defs and their calls; classes. -/
namespace DL
open PySem L2
/-- a def as a function of values -/
abbrev SF := List RV → Store → R RV
def lend : Fl → Fl
  | .own => .sh
  | .sh => .sh
  | _ => .bor
def entry (n : Nat) (rs : List RV) : Loc := rs.map (fun r => some (r.1, lend r.2)) ++ List.replicate (n - rs.length) none
/-- what a body says -/
def bodyF (n : Nat) (b : SS) : SF := fun rs S => match b (entry n rs) S with
  | .rt r S' => .ok r S'
  | .nx _ S' => .ok (.non, .sh) S'
  | _ => .bad
section
variable {w : Wd} {W : WX} {X : Cx}
def PostC (w : Wd) (Q : VK) (g : G) (H : Hp) (t : R RV) : Prop := match t with
  | .ok r S' => ∀ v H', RtOk w g H r S' v H' → Q v H'
  | _ => False
/-- the state ahead of a call, as the callee sees it -/
structure Ent (w : Wd) (g : G) (H : Hp) (S : Store) : Prop where
  sto : Stored w g.m g.Z H S
  nd : g.m.Nodup
  sep : ∀ b ∈ g.m, ¬ g.Z b
  trk : ∀ b, (b ∈ g.m ∨ g.Z b) → H b ≠ none
  zo : g.zo = []
  sl : g.sl = none
/-- THE PROMISE of a def that is the function F of np arguments -/
def spF (w : Wd) (np : Nat) (F : SF) : Sp := fun vs H Q _ => ∃ g rs S, Ent w g H S ∧ Args w g.m g.Z H rs vs ∧ rs.length = np ∧ PostC w Q g H (F rs S)
theorem Args.get {m : List Addr} {Z : Addr → Prop} {H : Hp} : ∀ {rs : List RV} {vs : List V} {i : Nat} {r : RV}, Args w m Z H rs vs → rs[i]? = some r → ∃ v, vs[i]? = some v ∧ Arg w m Z H r v
  | _, _, _, _, .nil, e => by simp at e
  | _, _, 0, _, .cons h _, e => by simp at e; subst e; exact ⟨_, rfl, h⟩
  | _, _, i + 1, _, .cons _ r, e => by simp at e ⊢; exact Args.get r e
theorem lend_ne (f : Fl) : lend f ≠ .own := by cases f <;> exact fun h => by cases h
theorem entry_get {n : Nat} {rs : List RV} {i : Nat} {r : RV} (h : (entry n rs)[i]? = some (some r)) : ∃ q, rs[i]? = some q ∧ r = (q.1, lend q.2) := by
  unfold entry at h
  by_cases hi : i < rs.length
  · rw [List.getElem?_append_left (by simpa using hi), List.getElem?_map, List.getElem?_eq_getElem hi] at h
    simp at h
    exact ⟨rs[i], List.getElem?_eq_getElem hi, h.symm⟩
  · rw [List.getElem?_append_right (by simpa using hi)] at h
    rw [List.getElem?_replicate] at h
    split at h <;> cases h
theorem Ent.rel {g : G} {H : Hp} {S : Store} {rs : List RV} {vs : List V} {N : List Str} (e : Ent w g H S) (a : Args w g.m g.Z H rs vs) : Rel w g (entry N.length rs) S (L2.start N vs) H := by
  have hl := a.length
  refine ⟨?_, fun i d fl q => ?_, fun i j d e' a' q1 q2 => ?_, e.sto, e.nd, e.sep, fun b hb => ?_, e.trk, fun x d q => ?_⟩
  · unfold L2.start entry
    simp only [List.length_append, List.length_map, List.length_replicate]
    omega
  · obtain ⟨q', hq, er⟩ := entry_get q
    obtain ⟨v, hv, av⟩ := a.get hq
    have hi : i < vs.length := (List.getElem?_eq_some_iff.mp hv).1
    refine ⟨v, ?_, ?_⟩
    · unfold L2.start
      rw [List.getElem?_append_left (by simpa using hi), List.getElem?_map, hv]; rfl
    · cases er
      obtain ⟨d', fl'⟩ := q'
      have lent : ∀ {fl}, Arg w g.m g.Z H (d', fl) v → Lent w g H d' v := fun av => by
        rcases av.read with h | ⟨a, e1, b, n⟩
        · exact .inl h
        · exact .inr ⟨a, e1, b, n, by rw [e.zo]; simp⟩
      cases fl' with
      | sh => exact av
      | own => exact av
      | bor => exact lent av
      | mine => exact lent av
  · obtain ⟨q', _, er⟩ := entry_get q1
    exfalso
    exact lend_ne q'.2 (congrArg Prod.snd er).symm
  · rw [e.zo] at hb; cases hb
  · rw [e.sl] at q; cases q
/-- a def whose body is b -/
theorem fn_ok {P : Program} {pw : World} {K : PySem.W.Frag} {mg : Str → Option Value} {base : Heap} {x qual : Str} {st : Stmt} {f : Addr} {fd : FuncData} {N ps : List Str} {k : Nat} {b : SS} (F : Fun K x qual st f fd) (S : FnScope N ps (defScope st))
    (hb : ∀ (cdv : Value) (A : Around) (outer : List Env) (s : Shared) (H : Hp) (E : XK), Room k (A.deeper (PyProof.Rows.envOfC qual (defScope st) s.heap.objs.size f cdv)) → PSs (cxOf CX0 P pw K mg base N qual (defScope st) f cdv A outer s H E).nox (defBody st) (rdS w WF b)) :
    FnOk P pw K mg base CX0 (k + 1) f fd ps (spF w ps.length (bodyF N.length b)) := by
  refine F.ok S (fun vs H Q E ⟨g, rs, S, _, a, hl, _⟩ => a.length ▸ hl) fun cdv A outer s H vs Q E hr ⟨g, rs, S0, e, a, hl, post⟩ => ?_
  refine ⟨_, hb cdv A outer s H E hr, g, _, S0, e.rel a, ?_⟩
  unfold bodyF at post
  cases ev : b (entry N.length rs) S0 with
  | nx ρ S' => rw [ev] at post; exact fun σ' H' ⟨g', s', r'⟩ => post .non H' ⟨g', s', r'.sto, r'.nd, r'.sep, r'.trk, r'.sez, .non⟩
  | rt r S' => rw [ev] at post; exact post
  | bk ρ S' => rw [ev] at post; exact post.elim
  | ct ρ S' => rw [ev] at post; exact post.elim
  | ex d ρ S' => rw [ev] at post; exact post.elim
  | bad => rw [ev] at post; exact post.elim
/-- what the callee sees of the caller's state -/
def G.call (g : G) : G := { m := g.m, zo := [], zb := g.zo ++ g.zb, sl := none }
theorem G.call_Z {g : G} : g.call.Z = g.Z := by
  funext b
  unfold G.call G.Z
  simp
theorem Rel.ent {g : G} {ρ : Loc} {S : Store} {σ : St} {H : Hp} (r : Rel w g ρ S σ H) : Ent w g.call H S :=
  ⟨by rw [G.call_Z]; exact r.sto, r.nd, fun b hb => by rw [G.call_Z]; exact r.sep b hb, fun b hb => by rw [G.call_Z] at hb; exact r.trk b hb, rfl, rfl⟩
theorem RtOk.rok {g : G} {ρ : Loc} {S S' : Store} {σ : St} {H H' : Hp} {r : RV} {v : V} (rel : Rel w g ρ S σ H) (h : RtOk w g.call H r S' v H') : ROk w g H ρ σ r S' v H' := by
  obtain ⟨g', s, sto, nd, sep, trk, sez, res⟩ := h
  have se : StepE g.m H g'.m H' := ⟨fun b o e q t => s.keep b o e (q.imp (fun q => ⟨q, by simp [G.call]⟩) id) t, s.grow, s.ms⟩
  have zo : ∀ b ∈ g'.zo, H b = none := fun b hb => (s.zo b hb).elim (fun q => by cases q) id
  have zb : ∀ b, b ∈ g'.zb ↔ g.Z b := fun b => by rw [s.zb]; show b ∈ g.zo ++ g.zb ↔ _; simp [G.Z]
  have lz : ∀ b, g.Z b → g'.Z b ∨ H' b = none := fun b q => .inl (.inr ((zb b).mpr q))
  have rel' : Rel w (g.at g'.m) ρ S' σ H' := rel.step se (sto.less lz) nd fun b hb => trk b (.inl hb)
  refine ⟨g'.m, se, rel', ?_⟩
  obtain ⟨d, fl⟩ := r
  cases fl with
  | sh => exact Rep.mono (mono_z lz) res
  | bor => exact res.elim
  | mine => exact res.elim
  | own =>
    obtain ⟨a, e, nm, b, ha⟩ := res
    have lz2 : ∀ c, (g.Z c ∨ c = a) → g'.Z c ∨ H' c = none := fun c q => q.elim (lz c) fun q => .inl (.inl (q ▸ ha))
    exact ⟨a, e, zo a ha, nm, fun q => rel.trk a (.inr q) (zo a ha), b.less lz2, sto.less lz2⟩
/-- a call: drs the defaults that fill up -/
def sCall (np : Nat) (F : SF) (drs : List RV) (fs : SA) : SE := fun ρ S => (fs ρ S).bind fun rs S1 => if (rs ++ drs).length = np then (match F (rs ++ drs) S1 with
    | .ok r S2 => .ok r S2
    | _ => .bad) else .bad
theorem Args.app {m : List Addr} {Z : Addr → Prop} {H : Hp} : ∀ {rs qs : List RV} {vs us : List V}, Args w m Z H rs vs → Args w m Z H qs us → Args w m Z H (rs ++ qs) (vs ++ us)
  | _, _, _, _, .nil, h => h
  | _, _, _, _, .cons a r, h => .cons a (Args.app r h)
/-- defaults: constants -/
def DefOk (w : Wd) (drs : List RV) (dvs : List V) : Prop := ∀ m Z H, Args w m Z H drs dvs
theorem def_nil : DefOk w [] [] := fun _ _ _ => .nil
theorem def_bl {b : Bool} {drs : List RV} {dvs : List V} (h : DefOk w drs dvs) : DefOk w ((.bl b, .sh) :: drs) (.bl b :: dvs) := fun m Z H => .cons (Rep.bl b) (h m Z H)
theorem def_int {i : Int} {drs : List RV} {dvs : List V} (h : DefOk w drs dvs) : DefOk w ((.int i, .sh) :: drs) (.int i :: dvs) := fun m Z H => .cons (Rep.int i) (h m Z H)
theorem def_non {drs : List RV} {dvs : List V} (h : DefOk w drs dvs) : DefOk w ((.non, .sh) :: drs) (.non :: dvs) := fun m Z H => .cons Rep.non (h m Z H)
theorem rd_call {np : Nat} {F : SF} {drs : List RV} {dvs : List V} {fs : SA} {σ : St} {H : Hp} {Q : VK} {E : XK} (hd : DefOk w drs dvs) (h : rdE w W (sCall np F drs fs) σ H Q) : tCall (spF w np F) dvs E (rdA w W fs) σ H Q := by
  obtain ⟨g, ρ, S, rel, h⟩ := h
  refine rdA_imp (bindA rel h goodE) fun vs H1 ⟨rs, S1, m1, s1, rel1, as, _, h1⟩ => ?_
  split at h1
  rotate_left
  · exact h1.elim
  rename_i hl
  have a2 : Args w (g.at m1).call.m (g.at m1).call.Z H1 (rs ++ drs) (vs ++ dvs) := by
    rw [G.call_Z]
    exact as.app (hd _ _ _)
  refine ⟨(g.at m1).call, rs ++ drs, S1, rel1.ent, a2, hl, ?_⟩
  cases e : F (rs ++ drs) S1 with
  | ok r S2 =>
    rw [e] at h1
    exact fun v H' k => h1 v H' (RtOk.rok rel1 k)
  | exc x S2 => rw [e] at h1; exact h1.elim
  | bad => rw [e] at h1; exact h1.elim
theorem e_call {k np : Nat} {f : Addr} {fd : FuncData} {ps : List Str} {F : SF} {drs : List RV} {dvs : List V} {ds : List Value} {x : Str} {p pos : Pos} {e : Expr} {es : List Expr} {fs : SA}
    (G : FnOk X.prog X.w X.K X.mg X.base CX0 k f fd ps (spF w np F)) (hr : Room k X.A) (hg : Gl X x) (hm : X.mg x = some (.ref f)) (hk : PySem.W.keepIn X.K (.ref f) = true) (hb : Binds X.K fd ps ds) (hd : Vals dvs ds) (hdr : DefOk w drs dvs)
    (hdb : (x == ("__debug__" : Str)) = false) (he : starEach (e :: es) X.env = (false, eval e X.env) :: starEach es X.env) (hpl : (backTo pos (starEach es X.env)).any (·.1) = false) (ha : PA X (e :: es) (rdA w W fs)) :
    PE X (.Call (.Name x p) (e :: es) [] pos) (rdE w W (sCall np F drs fs)) :=
  PE.imp (pe_call G hr hg hm hk hb hd pass0 ha hdb he hpl) fun _ _ _ h => rd_call hdr h
theorem rdA_nil {σ : St} {H : Hp} {Q : List V → Hp → Prop} (h : rdA w W sNil σ H Q) : tNil σ H Q := by
  obtain ⟨g, ρ, S, rel, h⟩ := h
  exact h [] H ⟨g.m, .refl _ _, rel, .nil⟩
theorem e_call0 {k np : Nat} {f : Addr} {fd : FuncData} {ps : List Str} {F : SF} {drs : List RV} {dvs : List V} {ds : List Value} {x : Str} {p pos : Pos}
    (G : FnOk X.prog X.w X.K X.mg X.base CX0 k f fd ps (spF w np F)) (hr : Room k X.A) (hg : Gl X x) (hm : X.mg x = some (.ref f)) (hk : PySem.W.keepIn X.K (.ref f) = true) (hb : Binds X.K fd ps ds) (hd : Vals dvs ds) (hdr : DefOk w drs dvs)
    (hdb : (x == ("__debug__" : Str)) = false) : PE X (.Call (.Name x p) [] [] pos) (rdE w W (sCall np F drs sNil)) :=
  PE.imp (pe_call0 G hr hg hm hk hb hd pass0 hdb) fun _ _ _ h => rdA_nil (rd_call (E := E0) hdr h)
end
end DL

set_option maxRecDepth 100000
/-! The value layer: instances of own classes. -/
namespace DL
open PySem L2
section
variable {w : Wd} {W : WX} {X : Cx}
def getN (fs : List (String × D)) (x : String) : Option D := (fs.find? fun p => p.1 == x).map (·.2)
def putN (x : String) (d : D) : List (String × D) → List (String × D)
  | [] => [(x, d)]
  | (y, e) :: r => if y = x then (y, d) :: r else (y, e) :: putN x d r
theorem getN_cons {y x : String} {e : D} {r : List (String × D)} : getN ((y, e) :: r) x = if y = x then some e else getN r x := by
  unfold getN
  rw [List.find?_cons]
  by_cases h : y = x
  · subst h; simp
  · rw [beq_eq_false_iff_ne.mpr h]; simp [h]
theorem RepN.get {m : List Addr} {Z : Addr → Prop} {H : Hp} {x : String} : ∀ {fs : List (String × D)} {gs : List (Str × V)}, RepN w m Z H fs gs → (getN fs x = none → gs.lookup (s2 x) = none) ∧ ∀ d, getN fs x = some d → ∃ v, gs.lookup (s2 x) = some v ∧ Rep w m Z H d v
  | _, _, .nil => ⟨fun _ => rfl, fun _ e => by cases e⟩
  | _, _, .cons (x := y) (d := e) (v := v) (fs := fs) (gs := gs) h r => by
    have ih := RepN.get (x := x) r
    rw [getN_cons, List.lookup_cons]
    by_cases hy : y = x
    · subst hy
      simp only [if_true, beq_self_eq_true]
      refine ⟨fun z => ?_, fun d z => ?_⟩
      · cases z
      · cases z
        exact ⟨v, rfl, h⟩
    · have : (s2 x == s2 y) = false := beq_eq_false_iff_ne.mpr fun q => hy (s2_inj q).symm
      rw [this, if_neg hy]
      exact ih
theorem RepN.put {m : List Addr} {Z : Addr → Prop} {H : Hp} {x : String} {d : D} {v : V} (hv : Rep w m Z H d v) : ∀ {fs : List (String × D)} {gs : List (Str × V)}, RepN w m Z H fs gs → RepN w m Z H (putN x d fs) (putF (s2 x) v gs)
  | _, _, .nil => .cons hv .nil
  | _, _, .cons (x := y) h r => by
    unfold putN putF
    by_cases hy : y = x
    · subst hy
      simp only [if_true]
      exact .cons hv r
    · rw [if_neg hy, if_neg fun q => hy (s2_inj q)]
      exact .cons h (RepN.put hv r)
theorem RepN.length {m : List Addr} {Z : Addr → Prop} {H : Hp} : ∀ {fs : List (String × D)} {gs : List (Str × V)}, RepN w m Z H fs gs → fs.length = gs.length
  | _, _, .nil => rfl
  | _, _, .cons _ r => by rw [List.length_cons, List.length_cons, RepN.length r]
theorem Look.ins {m : List Addr} {Z : Addr → Prop} {H : Hp} {c : Nat} {fs : List (String × D)} {v : V} (h : Look w m Z H (.ins c fs) v) : ∃ a dx gs, v = .ref a ∧ H a = some (.ins (w.cl c) dx gs) ∧ RepN w m Z H fs gs := by
  rcases h with h | ⟨a, e, b⟩
  · cases h with
    | box b => cases b with | ins h r => exact ⟨_, _, _, rfl, h, r⟩
  · cases b with | ins h r => exact ⟨_, _, _, e, h, r⟩
/-- one of several readings of an expression -/
theorem PE.any {e : Expr} {I : Type} {P : I → Prop} {t : I → TE} (h : ∀ i, P i → PE X e (t i)) : PE X e (fun σ H Q => ∃ i, P i ∧ t i σ H Q) := ⟨fun pins s σ H Q J ⟨i, p, q⟩ => (h i p).run pins s σ H Q J q⟩
/-! ### attributes -/
def sFld (x : String) (f : SE) (okc : Nat → Bool) : SE := fun ρ S => (f ρ S).bind fun r S1 => match view S1 r.1 with
  | .ins c fs => if okc c = true then (match getN fs x with | some d => .ok (d, .sh) S1 | none => .bad) else .bad
  | _ => .bad
theorem e_fld {e : Expr} {f : SE} {x : String} {pos : Pos} {okc : Nat → Bool} (hc : ∀ c, okc c = true → Cls X.K (w.cl c) ∧ NoAttr X.K (w.cl c) (s2 x)) (hb : attributeBase e (s2 x) X.env (eval e X.env) = eval e X.env) (he : PE X e (rdE w W f)) :
    PE X (.Attribute e (s2 x) pos) (rdE w W (sFld x f okc)) := by
  refine PE.imp (pe_fld he hb) fun σ H Q ⟨g, ρ, S, rel, h⟩ => ?_
  refine rdE_imp (bindE rel h goodE) fun v H1 ⟨r1, S1, m1, s1, rel1, res1, _, h1⟩ => ?_
  have l := look_view rel1 res1.arg
  split at h1
  rotate_left
  · exact h1.elim
  rename_i c fs ed
  rw [ed] at l
  obtain ⟨a, dx, gs, rfl, hi, rn⟩ := l.ins
  split at h1
  rotate_left
  · exact h1.elim
  rename_i oc
  split at h1
  rotate_left
  · exact h1.elim
  rename_i d eg
  obtain ⟨u, hu, ru⟩ := (rn.get (x := x)).2 d eg
  exact ⟨a, _, dx, gs, u, rfl, hi, (hc c oc).1, (hc c oc).2, hu, h1 _ _ (.same rel1 ru)⟩
/-- self.x = value; self in the first slot -/
def sFldS (x : String) (f : SE) (okc : Nat → Bool) : SS := fun ρ S => goS (f ρ S) ρ fun r S1 => match ρ[(0 : Nat)]? with
  | some (some (.ins c fs, .own)) => if leakOk r = true ∧ okc c = true ∧ fs.length < 1000 then .nx (ρ.set 0 (some (.ins c (putN x r.1 fs), .own))) S1 else .bad
  | _ => .bad
/-- one's own box in slot i changes -/
theorem Rel.pokeOwn {g : G} {ρ : Loc} {S : Store} {σ : St} {H : Hp} {i : Nat} {a : Addr} {d0 d : D} {o : HO} (rel : Rel w g ρ S σ H) (hi : ρ[i]? = some (some (d0, .own))) (hs : σ[i]? = some (some (.ref a))) (az : a ∈ g.zo) (nm : a ∉ g.m)
    (hf : ∀ u, H a = some u → ¬ fixO a u) (b : BoxW w g.m g.Z (upd H a o) d a) (M : Mono g.m g.Z H g.m g.Z (upd H a o)) : StepS g H g (upd H a o) ∧ Rel w g (ρ.set i (some (d, .own))) S σ (upd H a o) := by
  have hil : i < ρ.length := (List.getElem?_eq_some_iff.mp hi).1
  have s : StepS g H g (upd H a o) := by
    refine ⟨fun b u e q t => ?_, fun b e => ?_, ⟨[], by simp⟩, fun b q => .inl q, rfl, rfl⟩
    · by_cases hb : b = a
      · subst hb
        rcases q with q | q
        · exact absurd az q.2
        · exact absurd q (hf u e)
      · rw [upd_ne hb]; exact e
    · by_cases hb : b = a
      · rw [hb, upd_same] at e; cases e
      · rw [upd_ne hb] at e; exact e
  have bx : ∀ {d c}, c ≠ a → BoxW w g.m g.Z H d c → BoxW w g.m g.Z (upd H a o) d c := fun ne b => by
    cases b with
    | lst h r => exact .lst (by rw [upd_ne ne]; exact h) (r.mono M)
    | dk h r => exact .dk (by rw [upd_ne ne]; exact h) (r.mono M)
    | dt h r => exact .dt (by rw [upd_ne ne]; exact h) (r.mono M)
    | ins h r => exact .ins (by rw [upd_ne ne]; exact h) (r.mono M)
  refine ⟨s, by rw [List.length_set]; exact rel.len, fun j e fl q => ?_, fun j k e e' c q1 q2 p1 p2 => ?_, ⟨rel.sto.len, fun k e q => ?_⟩, rel.nd, rel.sep, rel.sez, fun b q => ?_, fun x e hx q => ?_⟩
  · by_cases hj : i = j
    · subst hj
      rw [List.getElem?_set_self hil] at q
      cases q
      exact ⟨.ref a, hs, a, rfl, b, az, nm⟩
    · rw [List.getElem?_set_ne hj] at q
      obtain ⟨v, hv, held⟩ := rel.loc j e fl q
      refine ⟨v, hv, ?_⟩
      cases fl with
      | sh => exact Rep.mono M held
      | mine => exact held.elim
      | bor =>
        rcases held with h | ⟨c, e1, bb, n, z⟩
        · exact .inl (h.mono M)
        · have ne : c ≠ a := fun q => z (q ▸ az)
          refine .inr ⟨c, e1, ?_, n, z⟩
          cases bb with
          | lst h r => exact .lst (by rw [upd_ne ne]; exact h) (r.mono M)
          | dk h r => exact .dk (by unfold Rd; rw [upd_ne ne]; exact h) (r.mono M)
          | dt h r => exact .dt (by unfold Rd; rw [upd_ne ne]; exact h) (r.mono M)
          | ins h r => exact .ins (by rw [upd_ne ne]; exact h) (r.mono M)
      | own =>
        obtain ⟨c, e1, bb, z, n⟩ := held
        have ne : c ≠ a := fun q => by
          subst q
          subst e1
          exact hj (rel.inj i j d0 e c hi q hs hv)
        exact ⟨c, e1, bx ne bb, z, n⟩
  · have up : ∀ {j : Nat} {e : D}, (ρ.set i (some (d, .own)))[j]? = some (some (e, .own)) → ∃ e', ρ[j]? = some (some (e', .own)) := fun {j e} q => by
      by_cases hj : i = j
      · subst hj; exact ⟨d0, hi⟩
      · rw [List.getElem?_set_ne hj] at q; exact ⟨e, q⟩
    obtain ⟨_, q1⟩ := up q1
    obtain ⟨_, q2⟩ := up q2
    exact rel.inj j k _ _ c q1 q2 p1 p2
  · obtain ⟨c, hc, bb⟩ := rel.sto.at_ k e q
    exact ⟨c, hc, bx (fun q => nm (q ▸ List.mem_of_getElem? hc)) bb⟩
  · by_cases hb : b = a
    · rw [hb, upd_same]; simp
    · rw [upd_ne hb]; exact rel.trk b q
  · by_cases h0 : i = 0
    · subst h0
      exact rel.slf x d0 hx hi
    · rw [List.getElem?_set_ne h0] at q
      exact rel.slf x e hx q
theorem mono_own {g : G} {H : Hp} {a : Addr} {o u : HO} (az : a ∈ g.zo) (h : H a = some u) (hu : exO u = true ∨ boxO u = true) : Mono g.m g.Z H g.m g.Z (upd H a o) := by
  refine mono_upd (.inl az) (fun xs q => ?_) (fun ob xs q => ?_) (fun cls d q => ?_) fun gs q => ?_ <;> rw [h] at q
  · cases q; rcases hu with hu | hu <;> cases hu
  · cases q; rcases hu with hu | hu <;> cases hu
  · unfold ExcO at q; cases q; rcases hu with hu | hu <;> cases hu
  · cases q; rcases hu with hu | hu <;> cases hu
theorem st_fldS {value : Expr} {f : SE} {x : String} {y : Str} {p pos pos' : Pos} {okc : Nat → Bool} (hc : ∀ c, okc c = true → Cls X.K (w.cl c) ∧ NoAttr X.K (w.cl c) (s2 x)) (hN : X.N[0]? = some y) (hv : Vis X.env.scope y) (hd : (y == ("__debug__" : Str)) = false)
    (hcd : (y == ("__classdict__" : Str)) = false) (hs : swapsWith value (some (.Attribute (.Name y p) (s2 x) pos')) pos.line X.env = pure false) (he : PE X value (rdE w W f)) :
    PS X (.Assign [.Attribute (.Name y p) (s2 x) pos'] value pos) (rdS w W (sFldS x f okc)) := by
  refine PS.imp (ps_fld (pe_var hN hv hd hcd) he hs) fun D σ H ⟨g, ρ, S, rel, h⟩ => ?_
  refine rdE_imp (bindE rel h goodS) fun v H1 ⟨r1, S1, m1, s1, rel1, res1, _, h1⟩ => ?_
  split at h1
  rotate_left
  · exact h1.elim
  rename_i c fs e0
  split at h1
  rotate_left
  · exact h1.elim
  rename_i cc
  obtain ⟨lk, oc, hz⟩ := cc
  obtain ⟨u, hu, a, rfl, bx, az, nm⟩ := rel1.loc 0 _ _ e0
  refine ⟨.ref a, hu, ?_⟩
  cases bx with
  | ins hi rn =>
    have M : ∀ o, Mono m1 g.Z H1 m1 g.Z (upd H1 a o) := fun o => mono_own (g := g.at m1) az hi (.inl rfl)
    have nf : ∀ u, H1 a = some u → ¬ fixO a u := fun u e q => by
      rw [hi] at e
      cases e
      rcases q with ⟨_, q⟩ | ⟨_, _, q⟩ | ⟨_, q⟩ | ⟨_, _, q⟩ <;> first | cases q | (unfold ExcO at q; cases q)
    obtain ⟨s2', rel2⟩ := Rel.pokeOwn (g := g.at m1) (d := .ins c (putN x r1.1 fs)) (o := .ins (w.cl c) _ (putF (s2 x) v _)) rel1 e0 hu az nm nf (.ins upd_same ((RepN.put (res1.arg.rep lk) rn).mono (M _))) (M _)
    exact ⟨a, _, _, _, rfl, hi, (hc c oc).1, (hc c oc).2, by rw [← rn.length]; exact hz, h1 _ _ ⟨_, s2', rel2⟩⟩
end
end DL

set_option maxRecDepth 100000
/-! The value layer: making instances; properties; own operators. -/
namespace DL
open PySem L2
section
variable {w : Wd} {W : WX} {X : Cx}
theorem Arg.less {m : List Addr} {Z Z' : Addr → Prop} {H : Hp} {r : RV} {v : V} (h : Arg w m Z H r v) (hz : ∀ b, Z' b → Z b ∨ H b = none) : Arg w m Z' H r v := by
  have rd : ∀ {d}, Read w m Z H d v → Read w m Z' H d v := fun {d} q => q.mono (mono_z hz) (fun _ _ _ h n => ⟨h, n⟩) fun _ _ _ h n => ⟨h, n⟩
  obtain ⟨d, fl⟩ := r
  cases fl with
  | sh => exact Rep.mono (mono_z hz) h
  | own => exact Rep.mono (mono_z hz) h
  | bor => exact rd h
  | mine => exact rd h
theorem Args.less {m : List Addr} {Z Z' : Addr → Prop} {H : Hp} (hz : ∀ b, Z' b → Z b ∨ H b = none) : ∀ {rs : List RV} {vs : List V}, Args w m Z H rs vs → Args w m Z' H rs vs
  | _, _, .nil => .nil
  | _, _, .cons a r => .cons (a.less hz) (Args.less hz r)
/-- what comes back from a callee that saw gc at H2, by a caller that stood at H -/
theorem RtOk.rokG {g gc : G} {ρ : Loc} {S S' : Store} {σ : St} {H H2 H' : Hp} {r : RV} {v : V} (rel : Rel w g ρ S σ H) (s0 : StepE g.m H g.m H2) (hm : gc.m = g.m) (hz : ∀ b ∈ gc.zo, H b = none) (hb : ∀ b, b ∈ gc.zb ↔ g.Z b) (h : RtOk w gc H2 r S' v H') : ROk w g H ρ σ r S' v H' := by
  obtain ⟨g', s, sto, nd, sep, trk, sez, res⟩ := h
  have fr : ∀ b ∈ g'.zo, H b = none := fun b q => (s.zo b q).elim (hz b) fun q => s0.grow b q
  have se : StepE g.m H g'.m H' := by
    refine ⟨fun b o e q t => s.keep b o (s0.keep b o e q t) (q.imp (fun q => ⟨by rw [hm]; exact q, fun z => by rw [hz b z] at e; cases e⟩) id) t, fun b q => s0.grow b (s.grow b q), ?_⟩
    obtain ⟨ex, e, hx⟩ := s.ms
    exact ⟨ex, by rw [e, hm], fun b q => s0.grow b (hx b q)⟩
  have zb : ∀ b, b ∈ g'.zb ↔ g.Z b := fun b => by rw [s.zb]; exact hb b
  have lz : ∀ b, g.Z b → g'.Z b ∨ H' b = none := fun b q => .inl (.inr ((zb b).mpr q))
  have rel' : Rel w (g.at g'.m) ρ S' σ H' := rel.step se (sto.less lz) nd fun b q => trk b (.inl q)
  refine ⟨g'.m, se, rel', ?_⟩
  obtain ⟨d, fl⟩ := r
  cases fl with
  | sh => exact Rep.mono (mono_z lz) res
  | bor => exact res.elim
  | mine => exact res.elim
  | own =>
    obtain ⟨a, e, nm, b, ha⟩ := res
    have lz2 : ∀ c, (g.Z c ∨ c = a) → g'.Z c ∨ H' c = none := fun c q => q.elim (lz c) fun q => .inl (.inl (q ▸ ha))
    exact ⟨a, e, fr a ha, nm, fun q => rel.trk a (.inr q) (fr a ha), b.less lz2, sto.less lz2⟩
/-! ### __init__ -/
def entryI (n c : Nat) (rs : List RV) : Loc := some (.ins c [], .own) :: (rs.map (fun r => some (r.1, lend r.2)) ++ List.replicate (n - (rs.length + 1)) none)
def initF (n c : Nat) (b : SS) : SF := fun rs S => match b (entryI n c rs) S with
  | .nx ρ S' => (match ρ[(0 : Nat)]? with
    | some (some (.ins c' fs, .own)) => .ok (.ins c' fs, .own) S'
    | _ => .bad)
  | _ => .bad
structure EntI (w : Wd) (g : G) (H : Hp) (S : Store) (x : Addr) : Prop where
  sto : Stored w g.m g.Z H S
  nd : g.m.Nodup
  sep : ∀ b ∈ g.m, ¬ g.Z b
  trk : ∀ b, (b ∈ g.m ∨ g.Z b) → H b ≠ none
  zo : g.zo = [x]
  zb : x ∉ g.zb
  sl : g.sl = some x
/-- what is lent is not the new one -/
def LentAll (w : Wd) (g : G) (H : Hp) (rs : List RV) (us : List V) : Prop := ∀ (i : Nat) r v, rs[i]? = some r → us[i]? = some v → Read w g.m g.Z H r.1 v → Lent w g H r.1 v
/-- THE PROMISE of an __init__ -/
def spI (w : Wd) (c np : Nat) (F : SF) : Sp := fun vs H Q _ => ∃ g rs S x dx us, vs = .ref x :: us ∧ H x = some (.ins (w.cl c) dx []) ∧ EntI w g H S x ∧ Args w g.m g.Z H rs us ∧ LentAll w g H rs us ∧ rs.length + 1 = np ∧
  match F rs S with
  | .ok r S' => ∀ H', RtOk w g H r S' (.ref x) H' → Q .non H'
  | _ => False
theorem entryI_get {n c : Nat} {rs : List RV} {i : Nat} {r : RV} (h : (entryI n c rs)[i]? = some (some r)) : (i = 0 ∧ r = (.ins c [], .own)) ∨ ∃ j q, i = j + 1 ∧ rs[j]? = some q ∧ r = (q.1, lend q.2) := by
  cases i with
  | zero => left; unfold entryI at h; simp at h; exact ⟨rfl, h.symm⟩
  | succ j =>
    right
    unfold entryI at h
    rw [List.getElem?_cons_succ] at h
    by_cases hi : j < rs.length
    · rw [List.getElem?_append_left (by simpa using hi), List.getElem?_map, List.getElem?_eq_getElem hi] at h
      simp at h
      exact ⟨j, rs[j], rfl, List.getElem?_eq_getElem hi, h.symm⟩
    · rw [List.getElem?_append_right (by simpa using hi)] at h
      rw [List.getElem?_replicate] at h
      split at h <;> cases h
theorem EntI.rel {g : G} {H : Hp} {S : Store} {x dx : Addr} {c : Nat} {rs : List RV} {vs : List V} {N : List Str} (e : EntI w g H S x) (hx : H x = some (.ins (w.cl c) dx [])) (a : Args w g.m g.Z H rs vs) (la : LentAll w g H rs vs) : Rel w g (entryI N.length c rs) S (L2.start N (.ref x :: vs)) H := by
  have hl := a.length
  have xm : x ∉ g.m := fun q => e.sep x q (.inl (by rw [e.zo]; simp))
  have zx : x ∈ g.zo := by rw [e.zo]; simp
  refine ⟨?_, fun i d fl q => ?_, fun i j d e' a' q1 q2 p1 p2 => ?_, e.sto, e.nd, e.sep, fun b hb => ?_, e.trk, fun y d q h => ?_⟩
  · unfold L2.start entryI
    simp only [List.length_append, List.length_map, List.length_replicate, List.length_cons]
    omega
  · rcases entryI_get q with ⟨rfl, er⟩ | ⟨j, q', rfl, hq, er⟩
    · cases er
      exact ⟨.ref x, rfl, x, rfl, .ins hx .nil, zx, xm⟩
    · obtain ⟨v, hv, av⟩ := a.get hq
      have hi : j < vs.length := (List.getElem?_eq_some_iff.mp hv).1
      refine ⟨v, ?_, ?_⟩
      · unfold L2.start
        rw [List.map_cons, List.cons_append, List.getElem?_cons_succ, List.getElem?_append_left (by simpa using hi), List.getElem?_map, hv]; rfl
      · cases er
        obtain ⟨d', fl'⟩ := q'
        have rd : Read w g.m g.Z H d' v → Lent w g H d' v := la j _ v hq hv
        cases fl' with
        | sh => exact av
        | own => exact av
        | bor => exact rd av
        | mine => exact rd av
  · have z : ∀ {i : Nat} {d : D}, (entryI N.length c rs)[i]? = some (some (d, .own)) → i = 0 := fun {i d} q => by
      rcases entryI_get q with ⟨rfl, _⟩ | ⟨j, q', _, _, er⟩
      · rfl
      · exact absurd (congrArg Prod.snd er).symm (lend_ne q'.2)
    rw [z q1, z q2]
  · rw [e.zo] at hb
    rw [List.mem_singleton.mp hb]
    exact e.zb
  · rw [e.sl] at q
    cases q
    rfl
/-- an __init__ whose body is b -/
theorem init_ok {P : Program} {pw : World} {K : PySem.W.Frag} {mg : Str → Option Value} {base : Heap} {x qual : Str} {st : Stmt} {f : Addr} {fd : FuncData} {N ps : List Str} {k c : Nat} {b : SS} (F : Fun K x qual st f fd) (S : FnScope N ps (defScope st))
    (hb : ∀ (cdv : Value) (A : Around) (outer : List Env) (s : Shared) (H : Hp) (E : XK), Room k (A.deeper (PyProof.Rows.envOfC qual (defScope st) s.heap.objs.size f cdv)) → PSs (cxOf CX0 P pw K mg base N qual (defScope st) f cdv A outer s H E).nox (defBody st) (rdS w WF b)) :
    FnOk P pw K mg base CX0 (k + 1) f fd ps (spI w c ps.length (initF N.length c b)) := by
  refine F.ok S (fun vs H Q E ⟨g, rs, S, x, dx, us, ev, _, _, a, _, hl, _⟩ => by rw [ev, List.length_cons, ← a.length, hl]) fun cdv A outer s H vs Q E hr ⟨g, rs, S0, x, dx, us, ev, hx, e, a, la, hl, post⟩ => ?_
  subst ev
  refine ⟨_, hb cdv A outer s H E hr, g, _, S0, e.rel hx a la, ?_⟩
  unfold initF at post
  cases ev : b (entryI N.length c rs) S0 with
  | nx ρ S' =>
    rw [ev] at post
    dsimp only at post
    intro σ' H' ⟨g', s', r'⟩
    cases e0 : ρ[(0 : Nat)]? with
    | none => rw [e0] at post; exact post.elim
    | some o =>
      cases o with
      | none => rw [e0] at post; exact post.elim
      | some q =>
        obtain ⟨d, fl⟩ := q
        cases d with
        | ins c' fs =>
          cases fl with
          | own =>
            rw [e0] at post
            obtain ⟨v, hv, y, rfl, bx, yz, ym⟩ := r'.loc 0 _ _ e0
            have hxy := r'.slf x _ (s'.sl.trans e.sl) e0
            rw [hv] at hxy
            cases hxy
            exact post H' ⟨g', s', r'.sto, r'.nd, r'.sep, r'.trk, r'.sez, x, rfl, ym, bx, yz⟩
          | _ => rw [e0] at post; exact post.elim
        | _ => rw [e0] at post; cases fl <;> exact post.elim
  | rt r S' => rw [ev] at post; exact post.elim
  | bk ρ S' => rw [ev] at post; exact post.elim
  | ct ρ S' => rw [ev] at post; exact post.elim
  | ex d ρ S' => rw [ev] at post; exact post.elim
  | bad => rw [ev] at post; exact post.elim
theorem Arg.lentN {g : G} {H H' : Hp} {m : List Addr} {zb : List Addr} {x : Addr} {sl : Option Addr} {r : RV} {v : V} (hx : H x = none) (h : Arg w g.m g.Z H r v) (s : StepE g.m H g.m H') (hz : ∀ b, b ∈ zb ↔ g.Z b) :
    Arg w g.m (G.mk g.m [x] zb sl).Z H' r v ∧ (Read w g.m (G.mk g.m [x] zb sl).Z H' r.1 v → Read w g.m g.Z H r.1 v → Lent w (G.mk g.m [x] zb sl) H' r.1 v) := by
  have lz : ∀ b, (G.mk g.m [x] zb sl).Z b → g.Z b ∨ H b = none := fun b q => by
    rcases q with q | q
    · exact .inr (by rw [List.mem_singleton.mp q]; exact hx)
    · exact .inl ((hz b).mp q)
  refine ⟨s.arg (h.less lz), ?_⟩
  obtain ⟨d, fl⟩ := r
  intro _ q
  have q : Read w g.m g.Z H d v := q
  show Lent w (G.mk g.m [x] zb sl) H' d v
  rcases q with q | ⟨a, e, b, n⟩
  · exact .inl (s.rep (Rep.mono (mono_z lz) q))
  · have ne : a ≠ x := fun z => b.ne (by rw [z]; exact hx)
    have M : Mono g.m g.Z H g.m (G.mk g.m [x] zb sl).Z H := mono_z lz
    have M2 : Mono g.m (G.mk g.m [x] zb sl).Z H g.m (G.mk g.m [x] zb sl).Z H' := s.mono fun _ q => q
    refine .inr ⟨a, e, ?_, n, fun q => ne (List.mem_singleton.mp q)⟩
    cases b with
    | lst h r => exact .lst (s.keep _ _ h (.inl n) (fun _ q => by cases q)) ((r.mono M).mono M2)
    | dk h r => exact .dk (s.rd h n (fun _ q => by cases q)) ((r.mono M).mono M2)
    | dt h r => exact .dt (s.rd h n (fun _ q => by cases q)) ((r.mono M).mono M2)
    | ins h r => exact .ins (s.keep _ _ h (.inl n) (fun _ q => by cases q)) ((r.mono M).mono M2)
theorem ArgsN {g : G} {H H' : Hp} {zb : List Addr} {x : Addr} {sl : Option Addr} (hx : H x = none) (s : StepE g.m H g.m H') (hz : ∀ b, b ∈ zb ↔ g.Z b) : ∀ {rs : List RV} {vs : List V}, Args w g.m g.Z H rs vs → Args w g.m (G.mk g.m [x] zb sl).Z H' rs vs
  | _, _, .nil => .nil
  | _, _, .cons a r => .cons (a.lentN (m := g.m) (sl := sl) hx s hz).1 (ArgsN hx s hz r)
/-- C(..), a new instance -/
def sMake (np : Nat) (F : SF) (drs : List RV) (fs : SA) : SE := fun ρ S => (fs ρ S).bind fun rs S1 => if (rs ++ drs).length + 1 = np then (match F (rs ++ drs) S1 with
    | .ok r S2 => .ok r S2
    | _ => .bad) else .bad
theorem rd_make {np c : Nat} {F : SF} {drs : List RV} {dvs : List V} {fs : SA} {σ : St} {H : Hp} {Q : VK} {E : XK} (hd : DefOk w drs dvs) (h : rdE w W (sMake np F drs fs) σ H Q) : tMake (w.cl c) (spI w c np F) dvs E (rdA w W fs) σ H Q := by
  obtain ⟨g, ρ, S, rel, h⟩ := h
  refine rdA_imp (bindA rel h goodE) fun vs H1 ⟨rs, S1, m1, s1, rel1, as, _, h1⟩ => ?_
  split at h1
  rotate_left
  · exact h1.elim
  rename_i hl
  intro x dx hx hdx hne
  have s0 : StepE m1 H1 m1 (upd (upd H1 dx (.own x)) x (.ins (w.cl c) dx [])) := by
    have a : StepE m1 H1 m1 (upd H1 dx (.own x)) := .new hdx
    have b : StepE m1 (upd H1 dx (.own x)) m1 (upd (upd H1 dx (.own x)) x (.ins (w.cl c) dx [])) := .new (by rw [upd_ne (fun z => hne z.symm)]; exact hx)
    exact a.trans b
  have hz : ∀ b, b ∈ g.zo ++ g.zb ↔ (g.at m1).Z b := fun b => by simp [G.Z]
  have nm : x ∉ m1 := fun q => rel1.trk x (.inl q) hx
  have nz : ¬ g.Z x := fun q => rel1.trk x (.inr q) hx
  have a2 : Args w m1 g.Z H1 (rs ++ drs) (vs ++ dvs) := as.app (hd _ _ _)
  have lz : ∀ b, (G.mk m1 [x] (g.zo ++ g.zb) (some x)).Z b → g.Z b ∨ H1 b = none := fun b q => by
    rcases q with q | q
    · exact .inr (by rw [List.mem_singleton.mp q]; exact hx)
    · exact .inl ((hz b).mp q)
  refine ⟨G.mk m1 [x] (g.zo ++ g.zb) (some x), rs ++ drs, S1, x, dx, vs ++ dvs, rfl, upd_same, ⟨?_, rel1.nd, fun b hb z => ?_, fun b q => ?_, rfl, fun q => nz ((hz x).mp q), rfl⟩, ArgsN (g := g.at m1) hx s0 hz a2, fun i r v h1 h2 hr => ?_, hl, ?_⟩
  · have q : Stored w m1 (G.mk m1 [x] (g.zo ++ g.zb) (some x)).Z H1 S1 := rel1.sto.less lz
    exact q.step s0 fun b hb => by
      rw [upd_ne (fun z => nm (by rw [← z]; exact hb)), upd_ne (fun z => rel1.trk b (.inl hb) (by rw [z]; exact hdx))]
  · rcases z with z | z
    · exact nm (by rw [← List.mem_singleton.mp z]; exact hb)
    · exact rel1.sep b hb ((hz b).mp z)
  · intro z
    have z1 := s0.grow b z
    rcases q with q | q | q
    · exact rel1.trk b (.inl q) z1
    · rw [List.mem_singleton.mp q, upd_same] at z
      cases z
    · exact rel1.trk b (.inr ((hz b).mp q)) z1
  · obtain ⟨v', hv', av⟩ := a2.get h1
    rw [h2] at hv'
    cases hv'
    exact (av.lentN (m := m1) (g := g.at m1) (sl := some x) hx s0 hz).2 hr av.read
  · cases e : F (rs ++ drs) S1 with
    | ok r S2 =>
      rw [e] at h1
      exact fun H' k => ⟨rfl, h1 (.ref x) H' (RtOk.rokG (g := g.at m1) (gc := G.mk m1 [x] (g.zo ++ g.zb) (some x)) rel1 s0 rfl (fun b q => by rw [List.mem_singleton.mp q]; exact hx) hz k)⟩
    | exc y S2 => rw [e] at h1; exact h1.elim
    | bad => rw [e] at h1; exact h1.elim
theorem e_make {k np c : Nat} {f : Addr} {fd : FuncData} {ps : List Str} {F : SF} {drs : List RV} {dvs : List V} {ds : List Value} {x : Str} {p pos : Pos} {e : Expr} {es : List Expr} {fs : SA} (M : Mk X.K (w.cl c) f)
    (G : FnOk X.prog X.w X.K X.mg X.base CX0 k f fd ps (spI w c np F)) (hr : Room (k + 1) X.A) (hg : Gl X x) (hm : X.mg x = some (.ref (w.cl c))) (hb : Binds X.K fd ps ds) (hd : Vals dvs ds) (hdr : DefOk w drs dvs)
    (hdb : (x == ("__debug__" : Str)) = false) (he : starEach (e :: es) X.env = (false, eval e X.env) :: starEach es X.env) (hpl : (backTo pos (starEach es X.env)).any (·.1) = false) (ha : PA X (e :: es) (rdA w W fs)) :
    PE X (.Call (.Name x p) (e :: es) [] pos) (rdE w W (sMake np F drs fs)) :=
  PE.imp (pe_make M G hr hg hm hb hd pass0 ha hdb he hpl) fun _ _ _ h => rd_make hdr h
theorem e_make0 {k np c : Nat} {f : Addr} {fd : FuncData} {ps : List Str} {F : SF} {drs : List RV} {dvs : List V} {ds : List Value} {x : Str} {p pos : Pos} (M : Mk X.K (w.cl c) f)
    (G : FnOk X.prog X.w X.K X.mg X.base CX0 k f fd ps (spI w c np F)) (hr : Room (k + 1) X.A) (hg : Gl X x) (hm : X.mg x = some (.ref (w.cl c))) (hb : Binds X.K fd ps ds) (hd : Vals dvs ds) (hdr : DefOk w drs dvs)
    (hdb : (x == ("__debug__" : Str)) = false) : PE X (.Call (.Name x p) [] [] pos) (rdE w W (sMake np F drs sNil)) :=
  PE.imp (pe_make0 M G hr hg hm hb hd pass0 hdb) fun σ H Q h => by
    have := rd_make (c := c) (E := E0) hdr h
    exact rdA_nil this
/-! ### a property -/
def sProp (F : SF) (okc : Nat → Bool) (f : SE) : SE := fun ρ S => (f ρ S).bind fun r S1 => match r.1 with
  | .ins c fs => if okc c = true then (match F [(.ins c fs, lend r.2)] S1 with
      | .ok q S2 => .ok q S2
      | _ => .bad) else .bad
  | _ => .bad
/-- one argument, an instance -/
theorem ent_one {np : Nat} {F : SF} {g : G} {ρ : Loc} {S : Store} {σ : St} {H : Hp} {r : RV} {v : V} {Q : VK} {E : XK} (rel : Rel w g ρ S σ H) (h : Arg w g.m g.Z H r v) (hn : np = 1) (post : PostE w W ρ σ Q g H (match F [(r.1, lend r.2)] S with
      | .ok q S2 => .ok q S2
      | _ => .bad)) : spF w np F [v] H Q E := by
  have a1 : Arg w g.call.m g.call.Z H (r.1, lend r.2) v := by
    rw [G.call_Z]
    obtain ⟨d, fl⟩ := r
    cases fl <;> exact h
  refine ⟨g.call, [(r.1, lend r.2)], S, rel.ent, .cons a1 .nil, hn.symm, ?_⟩
  cases e : F [(r.1, lend r.2)] S with
  | ok q S2 => rw [e] at post; exact fun v' H' k => post v' H' (RtOk.rok rel k)
  | exc x S2 => rw [e] at post; exact post.elim
  | bad => rw [e] at post; exact post.elim
theorem e_prop {k np : Nat} {e : Expr} {f : SE} {F : SF} {x : Str} {pos : Pos} {okc : Nat → Bool} {g : Addr} {fd : FuncData} {ps : List Str} (hn : np = 1) (c0 : Nat) (h0 : okc c0 = true)
    (hc : ∀ c, okc c = true → Cls X.K (w.cl c) ∧ ∃ p, PropOf X.K (w.cl c) x p g) (G : FnOk X.prog X.w X.K X.mg X.base CX0 k g fd ps (spF w np F)) (hr : Room (k + 1) X.A) (hb : Binds X.K fd ps [])
    (hab : attributeBase e x X.env (eval e X.env) = eval e X.env) (he : PE X e (rdE w W f)) : PE X (.Attribute e x pos) (rdE w W (sProp F okc f)) := by
  refine PE.imp (PE.any (P := fun c => okc c = true) (t := fun c => tProp (w.cl c) (spF w np F) [] E0 (rdE w W f)) fun c oc => ?_) fun σ H Q ⟨gh, ρ, S, rel, h⟩ => ?_
  · obtain ⟨cl, p, hp⟩ := hc c oc
    exact pe_prop he cl hp G hr hb .nil pass0 hab
  · cases ev : f ρ S with
    | exc y S1 =>
      unfold sProp at h
      rw [ev] at h
      refine ⟨c0, h0, gh, ρ, S, rel, ?_⟩
      rw [ev]
      exact h
    | bad => unfold sProp at h; rw [ev] at h; exact h.elim
    | ok r S1 =>
      obtain ⟨d, fl⟩ := r
      cases d with
      | ins c fs =>
        cases oc : okc c with
        | false => unfold sProp at h; rw [ev] at h; simp [R.bind, R.go, oc] at h; exact h.elim
        | true =>
          refine ⟨c, oc, ?_⟩
          refine rdE_imp (bindE rel h goodE) fun v H1 ⟨r1, S2, m1, s1, rel1, res1, e1, h1⟩ => ?_
          rw [ev] at e1
          cases e1
          obtain ⟨a, dx, gs, rfl, hi, rn⟩ := (Read.look res1.arg.read).ins
          refine ⟨a, dx, gs, rfl, hi, ?_⟩
          dsimp only at h1
          rw [if_pos oc] at h1
          exact ent_one (r := (.ins c fs, fl)) rel1 res1.arg hn h1
      | _ => unfold sProp at h; rw [ev] at h; exact h.elim
end
end DL

set_option maxRecDepth 100000
set_option maxHeartbeats 2000000
/-! The value layer: own len, +, *; isinstance. -/
namespace DL
open PySem L2
open PySem.W PyProof.Rows in
/-- x op y, two instances whose classes are apart -/
theorem own_bin2 {prog : Program} {pw : World} {A : Around} {E : Value → Shared → Prop} {s : Shared} {K : Frag} {x y C C' L f f' : Addr} {h₀ : Heap} {m : Str → Option Value} {ox oy : Obj} {od od' : Option Obj} {op : Operator} {rc rc' : Option Value} {Q : Value → Shared → Prop}
    (F : Fr h₀ L s.heap m) (X₀ : K.In h₀) (I : InstAt s.heap x ox C od) (J : InstAt s.heap y oy C' od') (hne : C ≠ C') (hc : selfFirst K C = true) (hc' : selfFirst K C' = true)
    (hs : findIn K (.ref C) (PySem.dunder op.info.2) = some (some (.ref f))) (hs' : findIn K (.ref C') (PySem.dunder op.info.2) = some (some (.ref f'))) (hf : isFn K (.ref f) = true)
    (hr : findIn K (.ref C) (dunderR op.info.2) = some rc) (hr' : findIn K (.ref C') (dunderR op.info.2) = some rc') (hp : rc = none ∨ ∃ g : Addr, rc = some (.ref g)) (hp' : rc' = none ∨ ∃ g : Addr, rc' = some (.ref g))
    (hsub : subIn K (.ref C') (.ref C) = some false) (h : wpAny (model prog pw) A (call (.ref f) [.ref x, .ref y]) (PySem.W.CmpBack Q) E s) : wpAny (model prog pw) A (binaryOp op (.ref x) (.ref y)) Q E s := by
  have X := X₀.keeps F.keep
  obtain ⟨cd, rest, hcd, hm⟩ := ksp_first hc
  obtain ⟨cd', rest', hcd', hm'⟩ := ksp_first hc'
  have one := ksp_try X I hs hf h
  rcases hi : op.info with ⟨sym, nm'⟩
  rw [hi] at hs hs' hr hr' one
  dsimp only at hs hs' hr hr' one
  obtain ⟨hh, g, d, tt, os⟩ := s
  have ty1 : Looks (model prog pw) hh (typeOf (.ref x)) (.ref C) := I.type
  have ty2 : Looks (model prog pw) hh (typeOf (.ref y)) (.ref C') := J.type
  have fl1 : Looks (model prog pw) hh (fillsNumberSlot (.ref C) nm') true := fills_K X hcd hm hs
  have fl2 : Looks (model prog pw) hh (fillsNumberSlot (.ref C') nm') true := fills_K X hcd' hm' hs'
  have sb : Looks (model prog pw) hh (isSubtype (.ref C') (.ref C)) false := looks_subIn X hsub
  have py1 : Looks (model prog pw) hh (numberSlotInPython (.ref C) nm') true := ksp_inPy X hs hr hp
  have py2 : Looks (model prog pw) hh (numberSlotInPython (.ref C') nm') true := ksp_inPy X hs' hr' hp'
  have ne : (Value.ref C == Value.ref C') = false := Bool.eq_false_iff.mpr fun q => by cases beq_iff_eq.mp q; exact hne rfl
  simp only [binaryOp, hi]
  refine wpAny_holding (wpAny_bind ?_)
  unfold binaryOp1
  refine wpAny_bind (ty1.at (wpAny_bind (ty2.at (wpAny_bind (fl1.at ?_)))))
  simp only [ne, Bool.false_eq_true, if_false]
  ksp_lk
  refine wpAny_mono one (fun r s' q => ?_) fun _ _ e => e
  obtain ⟨v, rfl, hq⟩ := q
  ksp_lk
  exact hq
section
variable {w : Wd} {W : WX} {X : Cx}
/-- a def runs, called by the machinery of an operator -/
theorem run_in {A : Around} {k : Nat} {f : Addr} {fd : FuncData} {ps : List Str} {sp : Sp} {pins : List (Addr × Obj)} {σ : L2.St} {H : Hp} {s : Shared} {Q : VK} {us : List Value} {vs : List V} (F : FnOk X.prog X.w X.K X.mg X.base CX0 k f fd ps sp) (hr : Room k A) (e0 : Env0 X.prog X.w X.K X.mg X.base A X.stack s H)
    (hb : Binds X.K fd ps []) (I : Inv X pins σ H s) (r : Vals vs us) (h : sp vs H Q E0) : wpAny (model X.prog X.w) A (call (.ref f) us) (EP X pins σ Q) X.xe s := by
  have hl : (us ++ []).length = ps.length := by rw [List.append_nil, ← r.length]; exact F.len _ _ _ _ h
  refine wpAny_call (codeAny_mono (F.run A X.stack s H ⟨us, []⟩ (us ++ []) vs Q E0 hr e0 (hb s us I.kIn hl) (by rw [List.append_nil]; exact r) h) fun r s' hq => ?_)
  cases r with
  | error e => exact False.elim hq
  | ok fl =>
    cases fl with
    | ret u => exact I.after hq
    | next => exact False.elim hq
    | brk => exact False.elim hq
    | cont => exact False.elim hq
theorem ins_look {pins : List (Addr × Obj)} {σ : L2.St} {H : Hp} {s : Shared} {a C dx : Addr} {fs : List (Str × V)} (I : Inv X pins σ H s) (e : H a = some (.ins C dx fs)) : ∃ od, PySem.W.InstAt s.heap a (PySem.W.instObj C dx) C (some od) := by
  obtain ⟨mA, O, _⟩ := ins_get I.hok e
  obtain ⟨od, J, _⟩ := O.look
  exact ⟨od, J⟩
/-! ### len -/
def rLenO (C : Addr) (sp : Sp) : List V → Hp → VK → Prop := fun xs H Q => ∃ a dx fs, xs = [.ref a] ∧ H a = some (.ins C dx fs) ∧ sp [.ref a] H (fun v H' => ∃ n : Int, v = .int n ∧ 0 ≤ n ∧ n < 2 ^ 63 ∧ Q (.int n) H') E0
theorem call_lenO {k : Nat} {C g : Addr} {fd : FuncData} {ps : List Str} {sp : Sp} (hs : PySem.W.findIn X.K (.ref C) "__len__" = some (some (.ref g))) (hf : PySem.W.isFn X.K (.ref g) = true) (F : FnOk X.prog X.w X.K X.mg X.base CX0 k g fd ps sp) (hr : Room (k + 1) X.A) (hb : Binds X.K fd ps []) :
    CallR X (.builtin "len") (rLenO C sp) := by
  intro pins s σ H xs us Q I r h
  obtain ⟨a, dx, fs, rfl, hi, q⟩ := h
  have ev := vals1 r
  obtain ⟨u, rfl, ru⟩ := ev
  obtain rfl : u = Value.ref a := ru
  obtain ⟨od, J⟩ := ins_look I hi
  obtain ⟨m, fr⟩ := I.fr
  refine PySem.W.len_K fr I.ok.mod.kin J hs hf (wpAny_mono (run_in (vs := [.ref a]) F hr.in1 I.env0.in1 hb I (.cons (show RelV (.ref a) (.ref a) from rfl) .nil) q) (fun v s' z => ?_) fun _ _ e => e)
  obtain ⟨z', H', I', rz, n, en, h0, h1, qz⟩ := z
  subst en
  obtain ⟨t, e⟩ := (show ∃ t, v = Value.int n t from rz)
  cases e
  exact ⟨⟨h0, h1⟩, .int n, H', I'.tok _, ⟨_, rfl⟩, qz⟩
/-- len(e), e a row, a text or an instance -/
def sLenO (F : SF) (okc : Nat → Bool) (fs : SA) : SE := fun ρ S => (fs ρ S).bind fun rs S1 => match rs with
  | [r] => (match view S1 r.1 with
    | .ins c gs => if okc c = true then (match F [(r.1, lend r.2)] S1 with
      | .ok (.int n, _) S2 => if 0 ≤ n ∧ n < 2 ^ 63 then .ok (.int n, .sh) S2 else .bad
      | _ => .bad) else .bad
    | _ => opt (oLen r S1) S1)
  | _ => .bad
theorem CallR.any {f : Value} {I : Type} {P : I → Prop} {r : I → List V → Hp → VK → Prop} (h : ∀ i, P i → CallR X f (r i)) : CallR X f (fun xs H Q => ∃ i, P i ∧ r i xs H Q) :=
  fun pins s σ H xs us Q J v ⟨i, p, q⟩ => h i p pins s σ H xs us Q J v q
/-- the one argument of a promise that has come -/
theorem post_int {np : Nat} {F : SF} {g : G} {ρ : Loc} {S : Store} {σ : L2.St} {H : Hp} {r : RV} {v : V} {Q : VK} {E : XK} (rel : Rel w g ρ S σ H) (h : Arg w g.m g.Z H r v) (hn : np = 1) (post : PostE w W ρ σ Q g H (match F [(r.1, lend r.2)] S with
      | .ok (.int n, _) S2 => if 0 ≤ n ∧ n < 2 ^ 63 then .ok (.int n, .sh) S2 else .bad
      | _ => .bad)) : spF w np F [v] H (fun v H' => ∃ n : Int, v = .int n ∧ 0 ≤ n ∧ n < 2 ^ 63 ∧ Q (.int n) H') E := by
  refine ent_one (W := W) (ρ := ρ) (σ := σ) rel h hn ?_
  cases e : F [(r.1, lend r.2)] S with
  | exc x S2 => rw [e] at post; exact post.elim
  | bad => rw [e] at post; exact post.elim
  | ok q S2 =>
    rw [e] at post
    obtain ⟨d, fl⟩ := q
    cases d with
    | int n =>
      dsimp only at post
      split at post
      · rename_i c
        intro v' H' k
        obtain ⟨m', s', rel', res⟩ := k
        have l : Look w m' g.Z H' (.int n) v' := (Res.arg res).read.look
        refine ⟨n, l.int, c.1, c.2, post _ _ ⟨m', s', rel', .int n⟩⟩
      · exact post.elim
    | _ => exact post.elim
theorem e_lenO {k np : Nat} {g : Addr} {fd : FuncData} {ps : List Str} {F : SF} {okc : Nat → Bool} {e : Expr} {es : List Expr} {fs : SA} {p pos : Pos} (hK : X.K = w.K) (hn : np = 1) (hc : ∀ c, okc c = true → PySem.W.findIn X.K (.ref (w.cl c)) "__len__" = some (some (.ref g)))
    (hf : PySem.W.isFn X.K (.ref g) = true) (G : FnOk X.prog X.w X.K X.mg X.base CX0 k g fd ps (spF w np F)) (hr : Room (k + 1) X.A) (hb : Binds X.K fd ps []) (b : BN X "len" (.builtin "len"))
    (he : starEach (e :: es) X.env = (false, eval e X.env) :: starEach es X.env) (hpl : (backTo pos (starEach es X.env)).any (·.1) = false) (ha : PA X (e :: es) (rdA w W fs)) : PE X (.Call (.Name "len" p) (e :: es) [] pos) (rdE w W (sLenO F okc fs)) := by
  have cr : CallR X (.builtin "len") (fun xs H Q => (fun xs H Q => ∃ x n, xs = [x] ∧ LenV X.K x H n ∧ Q (.int n) H) xs H Q ∨ (fun xs H Q => ∃ c, okc c = true ∧ rLenO (w.cl c) (spF w np F) xs H Q) xs H Q) :=
    CallR.or call_len (CallR.any fun c oc => call_lenO (hc c oc) hf G hr hb)
  refine PE.imp (pe_callB cr b.gl b.mg b.bt ha b.n1 b.n2 he hpl) fun σ H Q ⟨gh, ρ, S, rel, h⟩ => ?_
  refine rdA_imp (bindA rel h goodE) fun vs H1 ⟨rs, S1, m1, s1, rel1, as, _, h1⟩ => ?_
  split at h1
  rotate_left
  · exact h1.elim
  rename_i r _
  cases as with
  | cons a t =>
    cases t
    split at h1
    · rename_i c gs ed
      split at h1
      rotate_left
      · exact h1.elim
      rename_i oc
      have l := look_view rel1 a
      rw [ed] at l
      obtain ⟨x, dx, fs', rfl, hi, rn⟩ := l.ins
      exact .inr ⟨c, oc, x, dx, fs', rfl, hi, post_int rel1 a hn h1⟩
    · obtain ⟨q, e, h3⟩ := post_opt h1
      exact .inl (ok_len hK (gh.at m1) ρ S1 σ H1 r _ q Q rel1 a e h3)
/-! ### +, * -/
theorem back_of {z : V} {v : Value} {P : Value → Shared → Prop} {s : Shared} (r : RelV z v) (h : P v s) : PySem.W.CmpBack P v s := by
  cases v with
  | notImplemented => cases z <;> first | (cases r; done) | (obtain ⟨t, e⟩ := r; cases e)
  | _ => exact h
/-- what an own operator asks of a class -/
structure Bin1 (K : PySem.W.Frag) (C : Addr) (nm : String) (g : Addr) : Prop where
  self : PySem.W.selfFirst K C = true
  at_ : PySem.W.findIn K (.ref C) (PySem.dunder nm) = some (some (.ref g))
  back : ∃ rc, PySem.W.findIn K (.ref C) (dunderR nm) = some rc ∧ (rc = none ∨ ∃ g : Addr, rc = some (.ref g))
def rOwn2 (C C' : Addr) (sp : Sp) : R2 := fun x y H Q => ∃ a dx fs b dy gs, x = .ref a ∧ y = .ref b ∧ H a = some (.ins C dx fs) ∧ H b = some (.ins C' dy gs) ∧ sp [x, y] H Q E0
theorem op_own2 {op : Operator} {k : Nat} {C C' g : Addr} {fd : FuncData} {ps : List Str} {sp : Sp} (b1 : Bin1 X.K C op.info.2 g) (b2 : Bin1 X.K C' op.info.2 g) (hf : PySem.W.isFn X.K (.ref g) = true) (hs : C ≠ C' → PySem.W.subIn X.K (.ref C') (.ref C) = some false)
    (F : FnOk X.prog X.w X.K X.mg X.base CX0 k g fd ps sp) (hr : Room k X.A) (hb : Binds X.K fd ps []) : OpR X (binaryOp op) (rOwn2 C C' sp) := by
  intro pins s σ H x y v u Q I rx ry h
  obtain ⟨a, dx, fs, b, dy, gs, rfl, rfl, ha, hb', q⟩ := h
  cases (show v = Value.ref a from rx)
  cases (show u = Value.ref b from ry)
  obtain ⟨od, J⟩ := ins_look I ha
  obtain ⟨od', J'⟩ := ins_look I hb'
  obtain ⟨m, fr⟩ := I.fr
  have go : wpAny (model X.prog X.w) X.A (call (.ref g) [.ref a, .ref b]) (PySem.W.CmpBack (EP X pins σ Q)) X.xe s :=
    wpAny_mono (run_in (vs := [.ref a, .ref b]) F hr I.env0 hb I (.cons (show RelV (.ref a) (.ref a) from rfl) (.cons (show RelV (.ref b) (.ref b) from rfl) .nil)) q) (fun v s' ⟨z, H', I', rz, qz⟩ => back_of rz ⟨z, H', I', rz, qz⟩) fun _ _ e => e
  by_cases hC : C = C'
  · subst hC
    exact PySem.W.binop_K fr I.ok.mod.kin J J'.type b1.self b1.at_ hf go
  · obtain ⟨rc, e1, p1⟩ := b1.back
    obtain ⟨rc', e2, p2⟩ := b2.back
    exact own_bin2 fr I.ok.mod.kin J J' hC b1.self b2.self b1.at_ b2.at_ hf e1 e2 p1 p2 (hs hC) go
def rOwnI (C : Addr) (sp : Sp) : R2 := fun x y H Q => ∃ a dx fs i, x = .ref a ∧ y = .int i ∧ H a = some (.ins C dx fs) ∧ sp [x, y] H Q E0
theorem op_ownI {op : Operator} {k : Nat} {C g : Addr} {fd : FuncData} {ps : List Str} {sp : Sp} {fo ro : Option Value} (b1 : Bin1 X.K C op.info.2 g) (hf : PySem.W.isFn X.K (.ref g) = true) (h1 : PySem.W.findIn X.K (.type "int") (PySem.dunder op.info.2) = some fo) (h2 : PySem.W.findIn X.K (.type "int") (dunderR op.info.2) = some ro)
    (hs : PySem.W.subIn X.K (.type "int") (.ref C) = some false) (F : FnOk X.prog X.w X.K X.mg X.base CX0 k g fd ps sp) (hr : Room k X.A) (hb : Binds X.K fd ps []) : OpR X (binaryOp op) (rOwnI C sp) := by
  intro pins s σ H x y v u Q I rx ry h
  obtain ⟨a, dx, fs, i, rfl, rfl, ha, q⟩ := h
  cases (show v = Value.ref a from rx)
  obtain ⟨t, rfl⟩ := (show ∃ t, u = Value.int i t from ry)
  obtain ⟨od, J⟩ := ins_look I ha
  obtain ⟨m, fr⟩ := I.fr
  obtain ⟨rc, e1, p1⟩ := b1.back
  have go : wpAny (model X.prog X.w) X.A (call (.ref g) [.ref a, .int i t]) (PySem.W.CmpBack (EP X pins σ Q)) X.xe s :=
    wpAny_mono (run_in (vs := [.ref a, .int i]) F hr I.env0 hb I (.cons (show RelV (.ref a) (.ref a) from rfl) (.cons (show RelV (.int i) (.int i t) from ⟨t, rfl⟩) .nil)) q) (fun v s' ⟨z, H', I', rz, qz⟩ => back_of rz ⟨z, H', I', rz, qz⟩) fun _ _ e => e
  exact PySem.W.ksp_binT fr I.ok.mod.kin J rfl b1.self b1.at_ hf e1 p1 h1 h2 hs go
theorem OpR.any {f : Value → Value → Sem Value} {I : Type} {P : I → Prop} {r : I → R2} (h : ∀ i, P i → OpR X f (r i)) : OpR X f (fun x y H Q => ∃ i, P i ∧ r i x y H Q) :=
  fun pins s σ H x y v u Q J rx ry ⟨i, p, q⟩ => h i p pins s σ H x y v u Q J rx ry q
/-- a op b by the own def F of the left -/
def sOwn2 (F : SF) (okc : Nat → Bool) (f u : SE) : SE := fun ρ S => (f ρ S).bind fun a S1 => (u ρ S1).bind fun b S2 => match a.1, b.1 with
  | .ins c _, .ins c' _ => if okc c = true ∧ okc c' = true then (match F [(a.1, lend a.2), (b.1, lend b.2)] S2 with
      | .ok r S3 => .ok r S3
      | _ => .bad) else .bad
  | .ins c _, .int _ => if okc c = true then (match F [(a.1, lend a.2), (b.1, lend b.2)] S2 with
      | .ok r S3 => .ok r S3
      | _ => .bad) else .bad
  | _, _ => .bad
theorem ent_two {np : Nat} {F : SF} {g : G} {ρ : Loc} {S : Store} {σ : L2.St} {H : Hp} {r q : RV} {v u : V} {Q : VK} {E : XK} (rel : Rel w g ρ S σ H) (h : Arg w g.m g.Z H r v) (h' : Arg w g.m g.Z H q u) (hn : np = 2)
    (post : PostE w W ρ σ Q g H (match F [(r.1, lend r.2), (q.1, lend q.2)] S with
      | .ok q S2 => .ok q S2
      | _ => .bad)) : spF w np F [v, u] H Q E := by
  have a1 : ∀ {r : RV} {v : V}, Arg w g.m g.Z H r v → Arg w g.call.m g.call.Z H (r.1, lend r.2) v := fun {r v} h => by
    rw [G.call_Z]
    obtain ⟨d, fl⟩ := r
    cases fl <;> exact h
  refine ⟨g.call, [(r.1, lend r.2), (q.1, lend q.2)], S, rel.ent, .cons (a1 h) (.cons (a1 h') .nil), hn.symm, ?_⟩
  cases e : F [(r.1, lend r.2), (q.1, lend q.2)] S with
  | ok q S2 => rw [e] at post; exact fun v' H' k => post v' H' (RtOk.rok rel k)
  | exc x S2 => rw [e] at post; exact post.elim
  | bad => rw [e] at post; exact post.elim
/-- what an own operator asks of the classes -/
structure BinC (K : PySem.W.Frag) (w : Wd) (okc : Nat → Bool) (nm : String) (g : Addr) : Prop where
  one : ∀ c, okc c = true → Bin1 K (w.cl c) nm g
  sub : ∀ c c', okc c = true → okc c' = true → w.cl c ≠ w.cl c' → PySem.W.subIn K (.ref (w.cl c')) (.ref (w.cl c)) = some false
  fn : PySem.W.isFn K (.ref g) = true
  i1 : ∃ fo, PySem.W.findIn K (.type "int") (PySem.dunder nm) = some fo
  i2 : ∃ ro, PySem.W.findIn K (.type "int") (dunderR nm) = some ro
  isub : ∀ c, okc c = true → PySem.W.subIn K (.type "int") (.ref (w.cl c)) = some false
theorem e_own2 {op : Operator} {k np : Nat} {g : Addr} {fd : FuncData} {ps : List Str} {F : SF} {okc : Nat → Bool} {a b : Expr} {f u : SE} {pos : Pos} (hn : np = 2) (bc : BinC X.K w okc op.info.2 g) (G : FnOk X.prog X.w X.K X.mg X.base CX0 k g fd ps (spF w np F)) (hr : Room k X.A) (hb : Binds X.K fd ps [])
    (ha : PE X a (rdE w W f)) (hb' : PE X b (rdE w W u)) : PE X (.BinOp a op b pos) (rdE w W (sOwn2 F okc f u)) := by
  obtain ⟨fo, hi1⟩ := bc.i1
  obtain ⟨ro, hi2⟩ := bc.i2
  have o1 : OpR X (binaryOp op) (fun x y H Q => ∃ p : Nat × Nat, (okc p.1 = true ∧ okc p.2 = true) ∧ rOwn2 (w.cl p.1) (w.cl p.2) (spF w np F) x y H Q) :=
    OpR.any fun p hp => op_own2 (bc.one _ hp.1) (bc.one _ hp.2) bc.fn (bc.sub _ _ hp.1 hp.2) G hr hb
  have o2 : OpR X (binaryOp op) (fun x y H Q => ∃ c : Nat, okc c = true ∧ rOwnI (w.cl c) (spF w np F) x y H Q) :=
    OpR.any fun c hc => op_ownI (bc.one _ hc) bc.fn hi1 hi2 (bc.isub _ hc) G hr hb
  refine PE.imp (pe_op (OpR.or o1 o2) ha hb') fun σ H Q ⟨gh, ρ, S, rel, h⟩ => ?_
  refine rdE_imp (bindE rel h goodE) fun x H1 ⟨r1, S1, m1, s1, rel1, res1, _, h1⟩ => ?_
  refine rdE_imp (bindE rel1 h1 goodE) fun y H2 ⟨r2, S2, m2, s2, rel2, res2, _, h2⟩ => ?_
  have a1 := s2.arg res1.arg
  obtain ⟨d1, f1⟩ := r1
  obtain ⟨d2, f2⟩ := r2
  cases d1 with
  | ins c fs =>
    obtain ⟨p, dx, gs, rfl, hi, rn⟩ := (Read.look a1.read).ins
    cases d2 with
    | ins c' fs' =>
      dsimp only at h2
      split at h2
      rotate_left
      · exact h2.elim
      rename_i oc
      obtain ⟨p', dx', gs', rfl, hi', rn'⟩ := (Read.look res2.arg.read).ins
      exact .inl ⟨(c, c'), oc, p, dx, gs, p', dx', gs', rfl, rfl, hi, hi', ent_two (r := (.ins c fs, f1)) (q := (.ins c' fs', f2)) rel2 a1 res2.arg hn h2⟩
    | int i =>
      dsimp only at h2
      split at h2
      rotate_left
      · exact h2.elim
      rename_i oc
      have hy : y = .int i := Look.int (Read.look res2.arg.read)
      exact .inr ⟨c, oc, p, dx, gs, i, rfl, hy, hi, ent_two (r := (.ins c fs, f1)) (q := (.int i, f2)) rel2 a1 res2.arg hn h2⟩
    | _ => exact h2.elim
  | _ => cases d2 <;> exact h2.elim
end
end DL

set_option maxRecDepth 100000
set_option maxHeartbeats 2000000
/-! The value layer: repr, behind no other repr; isinstance; global constants; is. -/
namespace DL
open PySem L2
/-- the String of a text, if it is one -/
noncomputable def strOf (x : Str) : Option String := open Classical in if h : ∃ y : String, s2 y = x then some h.choose else none
theorem strOf_s2 (y : String) : strOf (s2 y) = some y := by
  unfold strOf
  have h : ∃ z : String, s2 z = s2 y := ⟨y, rfl⟩
  rw [dif_pos h, s2_inj h.choose_spec]
theorem of_strOf {x : Str} {y : String} (h : strOf x = some y) : s2 y = x := by
  unfold strOf at h
  split at h
  · rename_i e; cases h; exact e.choose_spec
  · cases h
section
variable {w : Wd} {W : WX} {X : Cx}
def rRepr (K : PySem.W.Frag) : List V → Hp → VK → Prop := fun xs H Q => ∃ v d, xs = [v] ∧ Dp K H v d ∧ d.canLay0 = true ∧ d.showable = true ∧ d.shown.length ≤ sizeLine ∧ d.depth ≤ 100 ∧ Q (.str d.shown) H
theorem call_repr (hg : X.A.guards = some []) (hu : X.A.units + 200 < cLine) : CallR X (.builtin "repr") (rRepr X.K) := by
  intro pins s σ H xs us Q I r h
  obtain ⟨v, d, rfl, hd, cl, hs, hz, hdp, q⟩ := h
  obtain ⟨u, rfl, ru⟩ := vals1 r
  obtain ⟨as, rd⟩ := Dp.reads I d v u hd ru
  have flat : ∀ tk, EP X pins σ Q (.str d.shown tk) { s with toks := s.toks + 1 } := fun tk => ⟨.str d.shown, H, I.tok _, ⟨_, rfl⟩, q⟩
  cases rd with
  | none => exact PySem.P.repr_of_none (flat _)
  | bool b => exact PySem.P.repr_of_bool (flat _)
  | int i t => exact PySem.P.repr_of_int (of_decide_eq_true hs) (flat _)
  | str x t => exact PySem.P.repr_of_str (flat _) hz
  | list h1 h2 h3 h4 => exact repr_of_reads' (h₀ := s.heap) (.list h1 h2 h3 h4) hs (PyData.noDict_hsm (PyData.hasDict_of_canLay _ cl)) hg (by omega) (fun _ _ e => e) (fun h' u' tk hk => ⟨.str _, H, I.kept hk, ⟨_, rfl⟩, q⟩) hz
  | tuple h1 h2 h3 h4 => exact repr_of_reads' (h₀ := s.heap) (.tuple h1 h2 h3 h4) hs (PyData.noDict_hsm (PyData.hasDict_of_canLay _ cl)) hg (by omega) (fun _ _ e => e) (fun h' u' tk hk => ⟨.str _, H, I.kept hk, ⟨_, rfl⟩, q⟩) hz
  | dict h1 h2 h3 h4 h5 => exact repr_of_reads' (h₀ := s.heap) (.dict h1 h2 h3 h4 h5) hs (PyData.noDict_hsm (PyData.hasDict_of_canLay _ cl)) hg (by omega) (fun _ _ e => e) (fun h' u' tk hk => ⟨.str _, H, I.kept hk, ⟨_, rfl⟩, q⟩) hz
open Classical in
noncomputable def oRepr (a : RV) (S : Store) : Option RV := if plain (view S a.1) = true ∧ (py (view S a.1)).showable = true ∧ (py (view S a.1)).shown.length ≤ sizeLine ∧ dep (view S a.1) ≤ 100 then (strOf (py (view S a.1)).shown).map fun x => (.str x, .sh) else none
theorem ok_repr (hK : X.K = w.K) : OkOp1 w (fun x H Q => rRepr X.K [x] H Q) oRepr := by
  intro g ρ S σ H a x q Q rel ha e k
  unfold oRepr at e
  split at e
  · rename_i c
    obtain ⟨y, ey, rfl⟩ := Option.map_eq_some_iff.mp e
    refine ⟨x, _, rfl, hK ▸ (look_view rel ha).dp c.1, py_lay _, c.2.1, c.2.2.1, by rw [py_dep]; exact c.2.2.2, ?_⟩
    rw [← of_strOf ey]
    exact k _ _ (.same rel (.str y))
  · cases e
/-! ### defs that must not run behind a repr -/
structure FnG (P : Program) (pw : World) (K : PySem.W.Frag) (mg : Str → Option Value) (base : Heap) (k : Nat) (f : Addr) (fd : FuncData) (ps : List Str) (sp : Sp) : Prop where
  len : ∀ vs H Q E, sp vs H Q E → vs.length = ps.length
  run : ∀ (A : Around) (outer : List Env) (s : Shared) (H : Hp) (args : PySem.Args) (us : List Value) (vs : List V) (Q : VK) (E : XK), A.guards = some [] → Room k A → Env0 P pw K mg base A outer s H → BindsTo s fd args (ps.zip us) → Vals vs us → sp vs H Q E →
    codeAny (model P pw) A (.call (.ref f) args) (CR CX0 outer P pw H s Q E) s
/-- the body of a def that no repr waits for -/
theorem fnG_ok {P : Program} {pw : World} {K : PySem.W.Frag} {mg : Str → Option Value} {base : Heap} {x qual : Str} {st : Stmt} {f : Addr} {fd : FuncData} {N ps : List Str} {k : Nat} {b : SS} (F : Fun K x qual st f fd) (S : FnScope N ps (defScope st))
    (hb : ∀ (cdv : Value) (A : Around) (outer : List Env) (s : Shared) (H : Hp) (E : XK), A.guards = some [] → Room k (A.deeper (PyProof.Rows.envOfC qual (defScope st) s.heap.objs.size f cdv)) → PSs (cxOf CX0 P pw K mg base N qual (defScope st) f cdv A outer s H E).nox (defBody st) (rdS w WF b)) :
    FnG P pw K mg base (k + 1) f fd ps (spF w ps.length (bodyF N.length b)) := by
  obtain ⟨oc, od, kV, doc, pm, an, cdv, ct, osl, rfl, lk, hcd⟩ := F.ex
  refine ⟨fun vs H Q E ⟨g, rs, S, _, a, hl, _⟩ => a.length ▸ hl, ?_⟩
  intro A outer s H args us vs Q E hg hr e0 bind rel ⟨g, rs, S0, en, a, hl, post⟩
  have many : vs.length = ps.length := a.length ▸ hl
  have inK : K.In s.heap := e0.mod.kin.keeps fun b o q => (e0.bs b o q).1
  have room : s.heap.NoLimit := e0.mod.nolimit.keeps fun b o q => (e0.bs b o q).1
  refine codeAny_call_function hr.depth (inK _ _ lk) rfl S.co S.gen rfl (PySem.W.codeRec_of inK hcd) (bind _ _ _ _ ?_)
  refine wpAny_newFunctionEnv_cells S.kind ?_ ?_
  · intro ⟨n, v⟩ hy
    exact (S.par n (List.of_mem_zip hy).1).imp id fun q => ⟨q, PySem.W.cellsFrom_some _ _ _ (.inl q)⟩
  · intro env he s1 new
    subst he
    refine ⟨room.keeps new.toInCall.keep, codeAny_func ?_⟩
    have body := (hb cdv A outer s H E hg (hr.deeper _)).nox
    have inv : Inv (cxOf CX0 P pw K mg base N qual (defScope st) f cdv A outer s H E) [] (L2.start N vs) H s1 := inv_start S hr.hd e0 many rel new
    have said : rdS w WF b { nx := fun _ H' => Q .non H', rt := Q } (L2.start N vs) H := by
      refine ⟨g, _, S0, en.rel a, ?_⟩
      unfold bodyF at post
      cases ev : b (entry N.length rs) S0 with
      | nx ρ S' => rw [ev] at post; exact fun σ' H' ⟨g', s', r'⟩ => post .non H' ⟨g', s', r'.sto, r'.nd, r'.sep, r'.trk, r'.sez, .non⟩
      | rt r S' => rw [ev] at post; exact post
      | bk ρ S' => rw [ev] at post; exact post.elim
      | ct ρ S' => rw [ev] at post; exact post.elim
      | ex d ρ S' => rw [ev] at post; exact post.elim
      | bad => rw [ev] at post; exact post.elim
    refine wpAny_mono (body.run [] s1 (L2.start N vs) H _ inv said) (fun fl s' hs => ?_) fun _ _ q => q
    have back : ∀ {σ' : L2.St} {H' : Hp} {v : V} {u : Value}, Inv (cxOf CX0 P pw K mg base N qual (defScope st) f cdv A outer s H E) [] σ' H' s' → RelV v u → Q v H' → CE outer P pw H s Q u s' :=
      fun {_ H' v _} J rv q => ⟨v, H', J.os, J.bare, J.base, J.hok, rv, q⟩
    cases fl with
    | ret u => obtain ⟨v, σ', H', J, rv, q⟩ := hs; exact back J rv q
    | next => obtain ⟨σ', H', J, q⟩ := hs; exact back (v := V.non) (u := Value.none) J rfl q
    | brk => obtain ⟨_, _, _, q⟩ := hs; exact q.elim
    | cont => obtain ⟨_, _, _, q⟩ := hs; exact q.elim
theorem e_callG {k np : Nat} {f : Addr} {fd : FuncData} {ps : List Str} {F : SF} {x : Str} {p pos : Pos} {e : Expr} {es : List Expr} {fs : SA} (hgu : X.A.guards = some [])
    (G : FnG X.prog X.w X.K X.mg X.base k f fd ps (spF w np F)) (hr : Room k X.A) (hg : Gl X x) (hm : X.mg x = some (.ref f)) (hk : PySem.W.keepIn X.K (.ref f) = true) (hb : Binds X.K fd ps [])
    (hdb : (x == ("__debug__" : Str)) = false) (he : starEach (e :: es) X.env = (false, eval e X.env) :: starEach es X.env) (hpl : (backTo pos (starEach es X.env)).any (·.1) = false) (ha : PA X (e :: es) (rdA w W fs)) :
    PE X (.Call (.Name x p) (e :: es) [] pos) (rdE w W (sCall np F [] fs)) := by
  refine PE.imp (t := tCall (spF w np F) [] E0 (rdA w W fs)) ?_ fun _ _ _ h => rd_call def_nil h
  refine ⟨fun pins s σ H Q I h => wpAny_Call_Name_kw (ld_glob I hg hm ?_ hdb)⟩
  refine PySem.W.callWith_K (h₀ := X.base) I.ok.mod.kin hk (thn (ha.run pos pins s σ H _ I h) fun us s1 ⟨vs, H1, I1, r, q⟩ => ⟨I1.kIn, ?_⟩) he hpl
  have q' : spF w np F vs H1 Q E0 := by simpa using q
  have hl : (us ++ []).length = ps.length := by rw [List.append_nil, ← r.length]; exact G.len _ _ _ _ q'
  refine wpAny_call (codeAny_mono (G.run X.A X.stack s1 H1 ⟨us, []⟩ (us ++ []) vs Q E0 hgu hr I1.env0 (hb s1 us I1.kIn hl) (by rw [List.append_nil]; exact r) q') fun r s' hq => ?_)
  cases r with
  | error e => exact False.elim hq
  | ok fl =>
    cases fl with
    | ret u => exact I1.after hq
    | next => exact False.elim hq
    | brk => exact False.elim hq
    | cont => exact False.elim hq
/-! ### global constants -/
theorem e_glob {x : Str} {pos : Pos} {d : D} {v : V} (hg : Gl X x) (hm : ∃ u, X.mg x = some u ∧ RelV v u) (hdb : (x == ("__debug__" : Str)) = false) (r : ∀ m Z H, Rep w m Z H d v) : PE X (.Name x pos) (rdE w W (sCst d)) := by
  obtain ⟨u, h1, h2⟩ := hm
  exact e_cst (pe_glob hg h1 h2 hdb) r
/-! ### is, is not of truths and None -/
def rIsBN (neg : Bool) : R2 := fun x y H Q => ∃ b : Bool, y = .bl b ∧ ((x = .non ∧ Q (.bl neg) H) ∨ ∃ a : Bool, x = .bl a ∧ Q (.bl (if neg then !decide (a = b) else decide (a = b))) H)
theorem op_isBN : OpR X (compareOp .Is) (rIsBN false) := by
  intro pins s σ H x y v u Q I rx ry h
  obtain ⟨b, rfl, h⟩ := h
  rcases h with ⟨rfl, q⟩ | ⟨a, rfl, q⟩
  · cases (show v = Value.none from rx)
    cases (show u = Value.bool b from ry)
    exact wpAny_is_other rfl (fun z => nomatch z) ⟨.bl false, H, I, rfl, q⟩
  · exact op_isBl pins s σ H _ _ v u Q I rx ry ⟨a, b, rfl, rfl, q⟩
theorem op_notBN : OpR X (compareOp .IsNot) (rIsBN true) := by
  intro pins s σ H x y v u Q I rx ry h
  obtain ⟨b, rfl, h⟩ := h
  rcases h with ⟨rfl, q⟩ | ⟨a, rfl, q⟩
  · cases (show v = Value.none from rx)
    cases (show u = Value.bool b from ry)
    exact wpAny_isNot_other rfl (fun z => nomatch z) ⟨.bl true, H, I, rfl, q⟩
  · exact op_notBl pins s σ H _ _ v u Q I rx ry ⟨a, b, rfl, rfl, q⟩
def oIsBN (neg : Bool) (a b : RV) (_ : Store) : Option RV := match a.1, b.1 with
  | .non, .bl _ => some (.bl neg, .sh)
  | .bl p, .bl q => some (.bl (if neg then !decide (p = q) else decide (p = q)), .sh)
  | _, _ => none
theorem ok_isBN {neg : Bool} : OkOp2 w (rIsBN neg) (oIsBN neg) := by
  intro g ρ S σ H a b x y q Q rel ha hb e k
  have l := ha.read.look
  have l2 := hb.read.look
  unfold oIsBN at e
  split at e
  · rename_i c ea eb
    rw [ea] at l
    rw [eb] at l2
    cases e
    exact ⟨c, l2.bl, .inl ⟨l.non, k _ _ (.same rel (.bl _))⟩⟩
  · rename_i p c ea eb
    rw [ea] at l
    rw [eb] at l2
    cases e
    exact ⟨c, l2.bl, .inr ⟨p, l.bl, k _ _ (.same rel (.bl _))⟩⟩
  · cases e
/-! ### isinstance -/
/-- what built-in type a value has -/
def tyD : D → Option String
  | .non => some "NoneType"
  | .bl _ => some "bool"
  | .int _ => some "int"
  | .str _ => some "str"
  | .tup _ => some "tuple"
  | .lst _ => some "list"
  | .frl _ => some "list"
  | .dk _ => some "dict"
  | _ => none
theorem tyD_ok {m : List Addr} {Z : Addr → Prop} {H : Hp} {d : D} {v : V} {T : String} (h : Look w m Z H d v) (e : tyD d = some T) : TyX w.K H v (.type T) := by
  cases d with
  | non => cases e; cases h.non; exact .base .non
  | bl b => cases e; cases h.bl; exact .base (.bl b)
  | int i => cases e; cases h.int; exact .base (.int i)
  | str x => cases e; cases h.str; exact .base (.str _)
  | tup ds =>
    cases e
    cases h.rep rfl with
    | tup hq r => exact .base (.tup hq)
    | gtup hq r => obtain ⟨o, its, n, h1, h2, _⟩ := hq; exact .kTuple h1 h2
    | box b => cases b
  | lst ds => cases e; obtain ⟨a, vs, rfl, hq, r⟩ := h.lst; exact .base (.lst hq)
  | frl ds =>
    cases e
    cases h.rep rfl with
    | frl hq r => exact .base (.frz hq)
    | gfrl hq r => obtain ⟨o, its, n, h1, h2, _⟩ := hq; exact .kList h1 h2
    | box b => cases b
  | dk kvs =>
    cases e
    obtain ⟨a, ks, rfl, hr, r⟩ := h.dk
    rcases hr with hr | ⟨o, hr⟩
    · exact .base (.dK hr)
    · exact .fDict hr
  | _ => cases e
/-- what is asked of an own class whose instances are looked at -/
structure ClsI (K : PySem.W.Frag) (C : Addr) : Prop where
  cl : Cls K C
  ha : PySem.W.findIn K (.ref C) "__class__" = some (some (.builtin "object.__class__"))
  hn : PySem.W.specialIn K (.builtin "object.__class__") "__get__" = some (some (.builtin "getset_descriptor.__get__"))
  ht : PySem.W.takesIn K (.builtin "object.__class__") = some true
  hm : PySem.W.mroIn K C (.type "object") = some true
/-- isinstance(_, u): pb by the built-in type's name, pc by the own class -/
def isiP (pb : String → Option Bool) (pc : Nat → Option Bool) (d : D) : Option Bool := match d with
  | .ins c _ => pc c
  | d => (tyD d).bind pb
structure IsiOk (w : Wd) (u : Value) (pb : String → Option Bool) (pc : Nat → Option Bool) : Prop where
  b : ∀ T k, pb T = some k → PySem.W.kitOne w.K (.type T) u = some k
  c : ∀ c k, pc c = some k → ClsI w.K (w.cl c) ∧ PySem.W.kitOne w.K (.ref (w.cl c)) u = some k
theorem IsiOk.of {u : Value} {pb : String → Option Bool} {pc : Nat → Option Bool} (k : IsiOk w u pb pc) {m : List Addr} {Z : Addr → Prop} {H : Hp} {d : D} {v : V} {b : Bool} (h : Look w m Z H d v) (e : isiP pb pc d = some b) : ∃ t, TyX w.K H v t ∧ PySem.W.kitOne w.K t u = some b := by
  have go : ∀ {T}, tyD d = some T → pb T = some b → ∃ t, TyX w.K H v t ∧ PySem.W.kitOne w.K t u = some b := fun {T} h1 h2 => ⟨_, tyD_ok h h1, k.b T b h2⟩
  cases d with
  | ins c fs =>
    obtain ⟨a, dx, gs, rfl, hi, rn⟩ := h.ins
    obtain ⟨ci, ko⟩ := k.c c b e
    exact ⟨_, .base (.ins hi ci.cl ci.ha ci.hn ci.ht ci.hm), ko⟩
  | _ =>
    unfold isiP at e
    obtain ⟨T, h1, h2⟩ := Option.bind_eq_some_iff.mp e
    exact go h1 h2
def sIsi (p : D → Option Bool) (f : SE) : SE := fun ρ S => (f ρ S).bind fun r S1 => match p (view S1 r.1) with
  | some b => .ok (.bl b, .sh) S1
  | none => .bad
theorem e_isi {e c : Expr} {f : SE} {v : V} {u : Value} {pb : String → Option Bool} {pc : Nat → Option Bool} {p pos : Pos} (hK : X.K = w.K) (b : BN X "isinstance" (.builtin "isinstance")) (k : IsiOk w u pb pc) (cv : ClsV v u) (hc : PE X c (tC v))
    (he : starEach (e :: [c]) X.env = (false, eval e X.env) :: starEach [c] X.env) (he2 : starEach (c :: []) X.env = (false, eval c X.env) :: starEach [] X.env) (hpl : (backTo pos (starEach [c] X.env)).any (·.1) = false) (ha : PE X e (rdE w W f)) :
    PE X (.Call (.Name "isinstance" p) [e, c] [] pos) (rdE w W (sIsi (isiP pb pc) f)) := by
  refine PE.imp (pe_callB (call_isi (X := X)) b.gl b.mg b.bt (pa_cons ha (pa_cons hc pa_nil he2) he) b.n1 b.n2 he hpl) fun σ H Q ⟨g, ρ, S, rel, h⟩ => ?_
  refine rdE_imp (bindE rel h goodE) fun x H1 ⟨r1, S1, m1, s1, rel1, res1, _, h1⟩ => ?_
  split at h1
  · rename_i bb eb
    obtain ⟨t, ty, ko⟩ := k.of (look_view rel1 res1.arg) eb
    exact ⟨x, v, t, u, bb, rfl, cv, hK ▸ ty, hK ▸ ko, h1 _ _ (.same rel1 (.bl bb))⟩
  · exact h1.elim
end
end DL

set_option maxRecDepth 100000
set_option maxHeartbeats 2000000
/-! The value layer: the law's own call, no repr around it. -/
namespace DL
open PySem PySem.Spec PyProof.Rows L2
section
variable {P : Program} {pw : World} {K : PySem.W.Frag} {mg mb : Str → Option Value} {k : Nat} {fa a : Addr} {fd : FuncData} {x : Str} {sp : Sp} {s₁ : Shared} {vs : List Value} {ns : List Int}
abbrev LawEnd (s₁ : Shared) (r : Result) (s' : Shared) : Prop := r = .ok (.ret (.bool true)) ∧ OldK s₁.heap s'.heap ∧ s'.os = s₁.os ∧ AllBare s'.gens
/-- from a heap in which at most the script is tracked -/
theorem law_from (KX : K.In s₁.heap) (hns : s₁.heap.Ns mainGlobals mg) (hb : s₁.heap.Ns builtinsNs mb) (hbb : ∀ x : Str, x ≠ "__name__" → mb x = bootBuiltins x) (hlim : s₁.heap.NoLimit) (hg : s₁.gens = #[])
    (ha : s₁.heap.get? a = some { cls := .type "list", data := .seq vs.toArray }) (hr : Room k PySem.callerA)
    (F : ∀ base : Heap, K.In base → base.Ns mainGlobals mg → FnG P pw K mg base k fa fd [x] sp) (hbind : ∀ (s : Shared) (u : Value), BindsTo s fd ⟨[u], []⟩ [(x, u)])
    {H : Hp} (only : Only H) (hok : HOk P pw H s₁.heap) (hA : ∀ b, H b ≠ none → b = a) (hK : H a ≠ none → K.lookup a = none) (said : sp [.ref a] H (fun v _ => v = .bl true) fun _ _ _ => False) :
    codeAny (model P pw) PySem.callerA (.call (.ref fa) ⟨[.ref a], []⟩) (LawEnd s₁) s₁ := by
  have dictFree : ∀ {b : Addr} {o : Obj} {es : Array DictEntry} {ep : Nat}, s₁.heap.get? b = some o → o.data = .dict es ep → H b = none := by
    intro b o es ep e d
    cases q : H b with
    | none => rfl
    | some u =>
      obtain rfl : b = a := hA b (by rw [q]; simp)
      have : some o = some { cls := .type "list", data := .seq vs.toArray } := e.symm.trans ha
      cases this
      exact absurd (show Data.seq vs.toArray _ = Data.dict es ep from d) (by intro z; cases z)
  have nsB : ∀ {b : Addr} {m : Str → Option Value}, s₁.heap.Ns b m → (hidT s₁.heap H).Ns b m := fun {_ _} ⟨o, es, ep, e, d, r⟩ => ⟨o, es, ep, hidT_get e (dictFree e d), d, r⟩
  have kB : K.In (hidT s₁.heap H) := by
    intro b o e
    refine hidT_get (KX b o e) ?_
    cases q : H b with
    | none => rfl
    | some u =>
      obtain rfl : b = a := hA b (by rw [q]; simp)
      rw [hK (by rw [q]; simp)] at e
      cases e
  have hM : Mod K mg (hidT s₁.heap H) := ⟨kB, nsB hns, ⟨mb, nsB hb, hbb⟩, hlim.imp fun mc h => ⟨nsB h.1, h.2⟩⟩
  have env : Env0 P pw K mg (hidT s₁.heap H) PySem.callerA [] s₁ H := ⟨rfl, hM, fun b o e => of_hidT e, Nat.le_of_eq (hidT_size _ _), trivial, fun b hb => absurd (show b ∈ ([] : List Addr) from hb) (by simp), hok, .of_eq hg⟩
  have run := (F _ kB (nsB hns)).run PySem.callerA [] s₁ H ⟨[.ref a], []⟩ [.ref a] [.ref a] _ _ rfl hr env (hbind s₁ (.ref a)) (.cons rfl .nil) said
  refine codeAny_mono run fun r s' h => ?_
  cases r with
  | error e => exact False.elim h
  | ok fl =>
    cases fl with
    | next => exact False.elim h
    | brk => exact False.elim h
    | cont => exact False.elim h
    | ret u =>
      obtain ⟨v, H', os, bare, un, hok', rv, q⟩ := h
      subst q
      obtain rfl : u = Value.bool true := rv
      refine ⟨rfl, OldK.of_keep fun b o e => ?_, os, bare⟩
      rcases only b with z | ⟨ob, xs, z⟩
      · exact un.keep b o e z (by intro q; exact absurd (show b ∈ ([] : List Addr) from q) (by simp)) (by simp)
      · obtain ⟨e1, _⟩ := hok b _ z
        obtain ⟨e2, _⟩ := hok' b _ (un.frzs b ob _ z)
        rw [e] at e1
        cases e1
        exact e2
theorem law_callG (KX : K.In s₁.heap) (hns : s₁.heap.Ns mainGlobals mg) (hb : s₁.heap.Ns builtinsNs mb) (hbb : ∀ x : Str, x ≠ "__name__" → mb x = bootBuiltins x) (hlim : s₁.heap.NoLimit) (hg : s₁.gens = #[])
    (ha : s₁.heap.get? a = some { cls := .type "list", data := .seq vs.toArray }) (hi : IntsAre vs ns) (hl : ns.length ≤ sizeLine) (hr : Room k PySem.callerA)
    (F : ∀ base : Heap, K.In base → base.Ns mainGlobals mg → FnG P pw K mg base k fa fd [x] sp) (hbind : ∀ (s : Shared) (u : Value), BindsTo s fd ⟨[u], []⟩ [(x, u)])
    (hsp : ∀ H : Hp, Only H → (KLst K a (ns.map V.int) ∧ (∀ b, H b = none) ∨ ∃ o, H a = some (.frz o (.lst (ns.map V.int)))) → sp [.ref a] H (fun v _ => v = .bl true) fun _ _ _ => False) :
    codeAny (model P pw) PySem.callerA (.call (.ref fa) ⟨[.ref a], []⟩) (LawEnd s₁) s₁ := by
  have rv := L2.vals_ints hi
  cases hk : K.lookup a with
  | some o =>
    have e := KX a o hk
    rw [ha] at e
    cases e
    refine law_from KX hns hb hbb hlim hg ha hr F hbind (H := fun _ => none) (fun _ => .inl rfl) (fun b u z => by cases z) (fun b z => absurd rfl z) (fun z => absurd rfl z) (hsp _ (fun _ => .inl rfl) (.inl ⟨?_, fun _ => rfl⟩))
    exact ⟨_, vs.toArray, _, hk, rfl, rfl, rfl, by rw [List.size_toArray, hi.length]; exact hl, by simpa using rv⟩
  | none =>
    let o0 : Obj := { cls := .type "list", data := .seq vs.toArray }
    let H0 : Hp := fun b => if b = a then some (.frz o0 (.lst (ns.map V.int))) else none
    have at_a : H0 a = some (.frz o0 (.lst (ns.map V.int))) := if_pos rfl
    have off : ∀ {b}, b ≠ a → H0 b = none := fun h => if_neg h
    have onlyA : Only H0 := fun b => by
      by_cases h : b = a
      · exact .inr ⟨o0, _, by rw [h]; exact at_a⟩
      · exact .inl (off h)
    refine law_from KX hns hb hbb hlim hg ha hr F hbind (H := H0) onlyA (fun b u z => ?_) (fun b z => Classical.byContradiction fun h => z (off h)) (fun _ => hk) (hsp _ onlyA (.inr ⟨o0, at_a⟩))
    by_cases h : b = a
    · subst h
      rw [at_a] at z
      cases z
      exact ⟨ha, by rw [List.length_map]; exact hl, vs, _, rv, ha⟩
    · rw [off h] at z
      cases z
end
/-- the goal that the head leaves, from the law's function of values -/
theorem walk_G {l : PySem.W.OpenLaw} {n k : Nat} {q : Program} {loose : List Str} {XP : (Str → Option Value) → Heap → Prop} {YP : World → Heap → Prop} {d : DefRec} {K : Params → PySem.W.Frag} {x : Str} {sp : PySem.W.Frag → Sp}
    (hn : l.most = some n) (hn2 : n ≤ sizeLine) (hdf : d.params.defaults = []) (hr : Room k PySem.callerA) (hY : ∀ (w : World) (h : Heap), YP w h → (K w.params).In h)
    (F : ∀ (w : World) (mg : Str → Option Value) (fa : Addr) (h : Heap), (K w.params).In h → h.Ns mainGlobals mg → mg d.name = some (.ref fa) →
      ∃ fd : FuncData, (∀ (s : Shared) (u : Value), BindsTo s fd ⟨[u], []⟩ [(x, u)]) ∧ ∀ base : Heap, (K w.params).In base → base.Ns mainGlobals mg → FnG l.prog w (K w.params) mg base k fa fd [x] (sp (K w.params)))
    (hsp : ∀ (K : PySem.W.Frag) (H : Hp) (a : Addr) (ns : List Int), ns.length ≤ n → (∀ z ∈ ns, Builtin.Int.intBits z ≤ 1048576) → (KLst K a (ns.map V.int) ∧ (∀ b, H b = none) ∨ ∃ o, H a = some (.frz o (.lst (ns.map V.int)))) → sp K [.ref a] H (fun v _ => v = .bl true) fun _ _ _ => False) :
    PySem.W.WalkO q loose XP YP l.row.toRowW d [] (fun f vs => PySem.call f vs) := by
  refine Att.attach_callB hn hdf fun w s₀ s₁ mg mb fa o pm cd doc a vs ns G Y ho hd hcd hmg hobj hints hlen hbits hg => ?_
  have KX := hY w _ Y
  obtain ⟨fd, hb, hF⟩ := F w mg fa _ KX G.T.g hmg
  exact law_callG KX G.T.g G.T.b G.T.builtins G.T.nolimit hg hobj hints (Nat.le_trans hlen hn2) hr hF hb fun H _ hS => hsp _ H a ns hlen hbits hS
end DL

set_option maxRecDepth 100000
/-! The value layer: shorthand for what a program prints. -/
namespace DL
open PySem L2
section
variable {w : Wd} {W : WX} {X : Cx}
/-! ### what is not come to -/
def sBadE : SE := fun _ _ => .bad
def sBadS : SS := fun _ _ => .bad
theorem e_bad {e : Expr} : PE X e (rdE w W sBadE) := ⟨fun pins s σ H Q I ⟨g, ρ, S, rel, h⟩ => h.elim⟩
theorem st_bad {st : Stmt} : PS X st (rdS w W sBadS) := ⟨fun pins s σ H D I ⟨g, ρ, S, rel, h⟩ => h.elim⟩
theorem ss_bad {st : List Stmt} : PSs X st (rdS w W sBadS) := ⟨fun pins s σ H D I ⟨g, ρ, S, rel, h⟩ => h.elim⟩
/-! ### a list taken apart -/
def gLs (n : Nat) (ts : Tgts) : Tgt := fun d ρ => match d with
  | .lst ds => if ds.length = n then ts ds ρ else none
  | _ => none
theorem g_ls {es : List Expr} {k : Nat} {p : Pos} {n : Nat} {ns : List Nat} {ts : Tgts} (hK : X.K = w.K) (hc : X.calm = true) (hn : (assignEach es X.env).length = n) (hst : (assignEach es X.env).findIdx? (·.1) = none) (h : PGs X es (rdGs w ns ts)) : PG X (.Tuple es k p) (rdG w ns (gLs n ts)) := by
  refine PG.imp (pg_lst (n := n) hc h hn hst) fun v σ H Q ⟨g, ρ, S, d, ρ', rel, r, e, h⟩ => ?_
  unfold gLs at e
  split at e
  · rename_i ds
    split at e
    · rename_i c
      obtain ⟨a, vs, rfl, ht, rs⟩ := Look.lst (.inl r)
      exact ⟨a, vs, rfl, .of ht, by rw [← rs.length]; exact c, g, ρ, S, ds, ρ', rel, rs, e, h⟩
    · cases e
  · cases e
/-! ### room -/
theorem cr_of {k : Nat} (hr : Room k X.A) (hc : X.calm = true) : CxR X := ⟨by have := hr.un; omega, hc⟩
theorem units_of {k : Nat} (hr : Room k X.A) : X.A.units + 1 < cLine := by have := hr.un; omega
theorem units2_of {k : Nat} (hr : Room k X.A) : X.A.units + 200 < cLine := by have := hr.un; omega
theorem bn_of {x : Str} {u : Value} (gl : Gl X x) (mg : X.mg x = none) (bt : bootBuiltins x = some u) (n1 : x ≠ "__name__" := by decide) (n2 : (x == ("__debug__" : Str)) = false := by decide) : BN X x u := ⟨gl, mg, bt, n1, n2⟩
/-! ### built-in calls of one or two arguments -/
def sB1 (op : RV → Store → Option RV) (f : SE) : SE := sOpN (on1 op) (sCons f sNil)
def sB2 (op : RV → RV → Store → Option RV) (f u : SE) : SE := sOpN (on2 op) (sCons f (sCons u sNil))
structure C1 (X : Cx) (e : Expr) (pos : Pos) : Prop where
  s : starEach [e] X.env = (false, eval e X.env) :: starEach [] X.env
  p : (backTo pos (starEach [] X.env)).any (·.1) = false
structure C2 (X : Cx) (e f : Expr) (pos : Pos) : Prop where
  s : starEach [e, f] X.env = (false, eval e X.env) :: starEach [f] X.env
  s2 : starEach [f] X.env = (false, eval f X.env) :: starEach [] X.env
  p : (backTo pos (starEach [f] X.env)).any (·.1) = false
theorem a_1 {e : Expr} {f : SE} (hs : starEach [e] X.env = (false, eval e X.env) :: starEach [] X.env) (h : PE X e (rdE w W f)) : PA X [e] (rdA w W (sCons f sNil)) := a_cons hs h a_nil
theorem e_bf1 {r : List V → Hp → VK → Prop} {op : RV → Store → Option RV} {x : Str} {id : String} {e : Expr} {f : SE} {p pos : Pos} (ok : OkOp1 w (fun x H Q => r [x] H Q) op) (hc : CallR X (.builtin id) r) (b : BN X x (.builtin id)) (c : C1 X e pos) (h : PE X e (rdE w W f)) :
    PE X (.Call (.Name x p) [e] [] pos) (rdE w W (sB1 op f)) := e_callB (ok_on1 ok) hc b c.s c.p (a_1 c.s h)
theorem e_bt1 {r : List V → Hp → VK → Prop} {op : RV → Store → Option RV} {x : Str} {T : String} {e : Expr} {f : SE} {p pos : Pos} (ok : OkOp1 w (fun x H Q => r [x] H Q) op) (hc : CallR X (.type T) r) (b : BN X x (.type T)) (c : C1 X e pos) (h : PE X e (rdE w W f)) :
    PE X (.Call (.Name x p) [e] [] pos) (rdE w W (sB1 op f)) := e_callTy (ok_on1 ok) hc b c.s c.p (a_1 c.s h)
theorem e_bf2 {r : List V → Hp → VK → Prop} {op : RV → RV → Store → Option RV} {x : Str} {id : String} {e e2 : Expr} {f u : SE} {p pos : Pos} (ok : OkOp2 w (fun x y H Q => r [x, y] H Q) op) (hc : CallR X (.builtin id) r) (b : BN X x (.builtin id)) (c : C2 X e e2 pos) (h : PE X e (rdE w W f)) (h2 : PE X e2 (rdE w W u)) :
    PE X (.Call (.Name x p) [e, e2] [] pos) (rdE w W (sB2 op f u)) := e_callB (ok_on2 ok) hc b c.s c.p (a_cons c.s h (a_1 c.s2 h2))
end
end DL

set_option maxRecDepth 100000
/-! The value layer: rules with what a context shows by itself left out. -/
namespace DL
open PySem L2
section
variable {w : Wd} {W : WX} {X : Cx}
theorem pvE (i : Nat) {x : Str} {pos : Pos} (hN : X.N[i]? = some x := by rfl) (hv : Vis X.env.scope x := by first | exact Or.inl rfl | exact Or.inr (Or.inl rfl) | exact Or.inr (Or.inr rfl)) (hd : (x == ("__debug__" : Str)) = false := by decide)
    (hcd : (x == ("__classdict__" : Str)) = false := by decide) : PE X (.Name x pos) (rdE w W (sVar i)) := e_var i hN hv hd hcd
theorem aC {e : Expr} {es : List Expr} {f : SE} {fs : SA} (ha : PE X e (rdE w W f)) (hr : PA X es (rdA w W fs)) (hs : starEach (e :: es) X.env = (false, eval e X.env) :: starEach es X.env := by rfl) : PA X (e :: es) (rdA w W (sCons f fs)) := a_cons hs ha hr
/-- a comparison as a value, as a test -/
theorem eC {op : CmpOp} {r : R2} {f : RV → RV → Store → Option RV} (ok : OkOp2 w r f) (ho : OpR X (compareOp op) r) {a b : Expr} {fa fb : SE} {pos : Pos} (ha : PE X a (rdE w W fa)) (hb : PE X b (rdE w W fb)) (hm : behindInMarks op b = false := by first | exact nomark _ | with_unfolding_all rfl) :
    PE X (.Compare a [op] [b] pos) (rdE w W (sOp2 f fa fb)) := e_cmp ok ho hm ha hb
theorem tC' {op : CmpOp} {r : R2} {f : RV → RV → Store → Option RV} (ok : OkOp2 w r f) (ho : OpR X (compareOp op) r) {a b : Expr} {fa fb : SE} {pos : Pos} (ha : PE X a (rdE w W fa)) (hb : PE X b (rdE w W fb)) (hm : behindInMarks op b = false := by first | exact nomark _ | with_unfolding_all rfl) :
    PT X (.Compare a [op] [b] pos) (rdT w W (sT (sOp2 f fa fb))) := t_cmp ok ho hm ha hb
theorem tV {e : Expr} {f : SE} (h : PE X e (rdE w W f)) (he : ∀ whole, isTrue e X.env whole = (do let v ← whole; standAt e.pos; holding [v] (truthy v)) := by intro _; rfl) : PT X e (rdT w W (sT f)) := t_val he h
theorem eIx {a b : Expr} {fa fb : SE} {pos : Pos} (ha : PE X a (rdE w W fa)) (hb : PE X b (rdE w W fb)) (hK : X.K = w.K := by rfl) (hs : PlainIx b := by intro _ _; rfl) : PE X (.Subscript a b pos) (rdE w W (sOp2 oIdx fa fb)) := e_idx hs ha hb hK
theorem eDg {a b : Expr} {fa fb : SE} {pos : Pos} (hu : X.A.units + 1 < cLine) (ha : PE X a (rdE w W fa)) (hb : PE X b (rdE w W fb)) (hs : NoSl b := by intro _ _; rfl) : PE X (.Subscript a b pos) (rdE w W (sOp2 oDGet fa fb)) := e_dget hu hs ha hb
theorem eChain {op op' : CmpOp} {r r' : R2} {o o' : RV → RV → Store → Option RV} (ok : OkOp2 w r o) (ok' : OkOp2 w r' o') (ho : OpR X (compareOp op) r) (ho' : OpR X (compareOp op') r') {a b c : Expr} {f u v : SE} {pos : Pos}
    (ha : PE X a (rdE w W f)) (hb : PE X b (rdE w W u)) (hc : PE X c (rdE w W v)) (hm : lastMarks [op, op'] [b, c] = false := by with_unfolding_all rfl) : PE X (.Compare a [op, op'] [b, c] pos) (rdE w W (sChain o o' f u v)) := e_chain ok ok' ho ho' hm ha hb hc
theorem tChain' {op op' : CmpOp} {r r' : R2} {o o' : RV → RV → Store → Option RV} (ok : OkOp2 w r o) (ok' : OkOp2 w r' o') (ho : OpR X (compareOp op) r) (ho' : OpR X (compareOp op') r') {a b c : Expr} {f u v : SE} {pos : Pos}
    (ha : PE X a (rdE w W f)) (hb : PE X b (rdE w W u)) (hc : PE X c (rdE w W v)) (hm : lastMarks [op, op'] [b, c] = false := by with_unfolding_all rfl) : PT X (.Compare a [op, op'] [b, c] pos) (rdT w W (sT (sChain o o' f u v))) := t_chain ok ok' ho ho' hm ha hb hc
theorem gNmE (i : Nat) {x : Str} {p : Pos} (o : Sto X i x) : PG X (.Name x p) (rdG w [i] (gNm i)) := g_nm o
theorem stoE {i : Nat} {x : Str} (nd : X.N.Nodup) (h : X.N[i]? = some x := by rfl) (l : L2.Loc X.env.scope x := by first | exact Or.inl rfl | exact Or.inr rfl | exact Or.inr (Or.inl rfl) | exact Or.inr (Or.inr rfl))
    (f : X.fn x = true ∨ X.env.scope.names.lookup x = some .local := by first | exact Or.inl rfl | exact Or.inr rfl) : Sto X i x := ⟨nd, h, l, f⟩
theorem stSet (i : Nat) {x : Str} {e : Expr} {f : SE} {p pos : Pos} (nd : X.N.Nodup) (he : PE X e (rdE w W f)) (o : Sto X i x) (hs : swapsWith e (some (.Name x p)) pos.line X.env = pure false := by rfl) : PS X (.Assign [.Name x p] e pos) (rdS w W (sSet i f)) := st_set o hs he
theorem stFor {iter tg : Expr} {body : List Stmt} {ns : List Nat} {f : SI} {t : Tgt} {b : SS} {pos : Pos} (hi : PI X tg iter (rdI w W f)) (hg : PG X tg (rdG w ns t)) (hb : PSs X body (rdS w W b)) (hp : PassesOwn (model X.prog X.w) X.A X.env X.xe := by exact PassesOwn.never) (hc : X.calm = true := by rfl)
    (hs : ∀ x, foldedSetIterable iter X.env x = pure x := by intro _; rfl) : PS X (.For tg iter body [] pos) (rdS w W (sFor f t b)) := st_for hp hc hs hi hg hb
theorem stWhile {c : Expr} {body : List Stmt} {t : ST} {b : SS} {pos : Pos} (hc : PT X c (rdT w W t)) (hb : PSs X body (rdS w W b)) (hp : PassesOwn (model X.prog X.w) X.A X.env X.xe := by exact PassesOwn.never) : PS X (.While c body [] pos) (rdS w W (sWhile t b)) := st_while hp hc hb
theorem eLc {elt tg iter : Expr} {ifs : List Expr} {scope : Scope} (own : List (Str × Nat)) {pos : Pos} {ns : List Nat} {fi : SI} {t : Tgt} {c : ST} {f : SE} (hN : X.N.Nodup) (hi : PI X tg iter (rdI w W fi)) (hg : AllBlk X scope fun B => PG B tg (rdG w ns t)) (ht : AllBlk X scope fun B => PTs B ifs (rdT w WF c)) (he : AllBlk X scope fun B => PE B elt (rdE w WF f))
    (ok : BlkOk X.N X.env.scope scope own := by exact blkOk_by (by decide +kernel)) (hns : ∀ n ∈ ns, n ∈ own.map (·.2) := by decide) (hc : X.calm = true := by rfl) (hs : ∀ x, foldedSetIterable iter X.env x = pure x := by intro _; rfl) :
    PE X (.ListComp elt [⟨tg, iter, ifs, 0⟩] scope pos) (rdE w W (sLc fi t c f (own.map (·.2)))) := e_lc hc hN hs ok hns hi hg ht he
theorem stLc (i : Nat) {y : Str} {py : Pos} {elt tg iter : Expr} {ifs : List Expr} {scope : Scope} (own : List (Str × Nat)) {pos spos : Pos} {ns : List Nat} {fi : SI} {t : Tgt} {c : ST} {f : SE} (nd : X.N.Nodup) (hi : PI X tg iter (rdI w W fi)) (hg : AllBlk X scope fun B => PG B tg (rdG w ns t)) (ht : AllBlk X scope fun B => PTs B ifs (rdT w WF c)) (he : AllBlk X scope fun B => PE B elt (rdE w WF f)) (o : Sto X i y)
    (hyl : X.env.scope.names.lookup y = some .local := by rfl) (hsw : swapsWith (.ListComp elt [⟨tg, iter, ifs, 0⟩] scope pos) (some (.Name y py)) spos.line X.env = pure true := by rfl)
    (ok : BlkOk X.N X.env.scope scope own := by exact blkOk_by (by decide +kernel)) (hns : ∀ n ∈ ns, n ∈ own.map (·.2) := by decide) (hc : X.calm = true := by rfl) (hs : ∀ x, foldedSetIterable iter X.env x = pure x := by intro _; rfl) :
    PS X (.Assign [.Name y py] (.ListComp elt [⟨tg, iter, ifs, 0⟩] scope pos) spos) (rdS w W (sSet i (sLc fi t c f (own.map (·.2))))) := st_setLc hc o hyl hsw hs ok hns hi hg ht he
end
end DL

set_option maxRecDepth 100000
set_option maxHeartbeats 2000000
/-! Defs with defaults; what the top has written, asked by truths. -/
namespace DL
open PySem L2
section
variable {P : Program} {pw : World} {K : PySem.W.Frag} {mg : Str → Option Value} {base : Heap} {w : Wd}
abbrev FunX (K : PySem.W.Frag) (x qual : Str) (st : Stmt) (dvs : List V) (f : Addr) (fd : FuncData) : Prop := FunD K x qual (defArgs st) (defBody st) (defScope st) dvs [] f fd
theorem fun_ok {x qual : Str} {st : Stmt} {dvs : List V} {f : Addr} {fd : FuncData} {N ps : List Str} {k : Nat} {sp : Sp} (F : FunX K x qual st dvs f fd) (S : FnScope N ps (defScope st)) (len : ∀ vs H Q E, sp vs H Q E → vs.length = ps.length)
    (hbody : ∀ (cdv : Value) (A : Around) (outer : List Env) (s : Shared) (H : Hp) (vs : List V) (Q : VK) (E : XK), Room k (A.deeper (PyProof.Rows.envOfC qual (defScope st) s.heap.objs.size f cdv)) → sp vs H Q E →
      ∃ t, PSs (cxOf CX0 P pw K mg base N qual (defScope st) f cdv A outer s H E).nox (defBody st) t ∧ t { nx := fun _ H' => Q .non H', rt := Q } (L2.start N vs) H) : FnOk P pw K mg base CX0 (k + 1) f fd ps sp :=
  FunD.ok F S len fun cdv A outer s H vs Q E hr h => let ⟨t, h1, h2⟩ := hbody cdv A outer s H vs Q E hr h; ⟨t, h1.nox, h2⟩
theorem fn_okD {x qual : Str} {st : Stmt} {dvs : List V} {f : Addr} {fd : FuncData} {N ps : List Str} {k : Nat} {b : SS} (F : FunX K x qual st dvs f fd) (S : FnScope N ps (defScope st))
    (hb : ∀ (cdv : Value) (A : Around) (outer : List Env) (s : Shared) (H : Hp) (E : XK), Room k (A.deeper (PyProof.Rows.envOfC qual (defScope st) s.heap.objs.size f cdv)) → PSs (cxOf CX0 P pw K mg base N qual (defScope st) f cdv A outer s H E).nox (defBody st) (rdS w WF b)) :
    FnOk P pw K mg base CX0 (k + 1) f fd ps (spF w ps.length (bodyF N.length b)) := by
  refine fun_ok F S (fun vs H Q E ⟨g, rs, S, _, a, hl, _⟩ => a.length ▸ hl) fun cdv A outer s H vs Q E hr ⟨g, rs, S0, e, a, hl, post⟩ => ?_
  refine ⟨_, hb cdv A outer s H E hr, g, _, S0, e.rel a, ?_⟩
  unfold bodyF at post
  cases ev : b (entry N.length rs) S0 with
  | nx ρ S' => rw [ev] at post; exact fun σ' H' ⟨g', s', r'⟩ => post .non H' ⟨g', s', r'.sto, r'.nd, r'.sep, r'.trk, r'.sez, .non⟩
  | rt r S' => rw [ev] at post; exact post
  | bk ρ S' => rw [ev] at post; exact post.elim
  | ct ρ S' => rw [ev] at post; exact post.elim
  | ex d ρ S' => rw [ev] at post; exact post.elim
  | bad => rw [ev] at post; exact post.elim
theorem init_okD {x qual : Str} {st : Stmt} {dvs : List V} {f : Addr} {fd : FuncData} {N ps : List Str} {k c : Nat} {b : SS} (F : FunX K x qual st dvs f fd) (S : FnScope N ps (defScope st))
    (hb : ∀ (cdv : Value) (A : Around) (outer : List Env) (s : Shared) (H : Hp) (E : XK), Room k (A.deeper (PyProof.Rows.envOfC qual (defScope st) s.heap.objs.size f cdv)) → PSs (cxOf CX0 P pw K mg base N qual (defScope st) f cdv A outer s H E).nox (defBody st) (rdS w WF b)) :
    FnOk P pw K mg base CX0 (k + 1) f fd ps (spI w c ps.length (initF N.length c b)) := by
  refine fun_ok F S (fun vs H Q E ⟨g, rs, S, x, dx, us, ev, _, _, a, _, hl, _⟩ => by rw [ev, List.length_cons, ← a.length, hl]) fun cdv A outer s H vs Q E hr ⟨g, rs, S0, x, dx, us, ev, hx, e, a, la, hl, post⟩ => ?_
  subst ev
  refine ⟨_, hb cdv A outer s H E hr, g, _, S0, e.rel hx a la, ?_⟩
  unfold initF at post
  cases ev : b (entryI N.length c rs) S0 with
  | nx ρ S' =>
    rw [ev] at post
    dsimp only at post
    intro σ' H' ⟨g', s', r'⟩
    cases e0 : ρ[(0 : Nat)]? with
    | none => rw [e0] at post; exact post.elim
    | some o =>
      cases o with
      | none => rw [e0] at post; exact post.elim
      | some q =>
        obtain ⟨d, fl⟩ := q
        cases d with
        | ins c' fs =>
          cases fl with
          | own =>
            rw [e0] at post
            obtain ⟨v, hv, y, rfl, bx, yz, ym⟩ := r'.loc 0 _ _ e0
            have hxy := r'.slf x _ (s'.sl.trans e.sl) e0
            rw [hv] at hxy
            cases hxy
            exact post H' ⟨g', s', r'.sto, r'.nd, r'.sep, r'.trk, r'.sez, x, rfl, ym, bx, yz⟩
          | _ => rw [e0] at post; exact post.elim
        | _ => rw [e0] at post; cases fl <;> exact post.elim
  | rt r S' => rw [ev] at post; exact post.elim
  | bk ρ S' => rw [ev] at post; exact post.elim
  | ct ρ S' => rw [ev] at post; exact post.elim
  | ex d ρ S' => rw [ev] at post; exact post.elim
  | bad => rw [ev] at post; exact post.elim
/-- a def without defaults, as one that has them -/
theorem fun_noD {x qual : Str} {st : Stmt} {f : Addr} {fd : FuncData} (F : FunX K x qual st [] f fd) : L2.Fun K x qual st f fd := by
  obtain ⟨oc, od, dV, kV, doc, pm, an, cdv, ct, osl, e, lk, hcd, hd, _⟩ := F.ex
  rcases hd with ⟨_, rfl⟩ | ⟨q, _⟩
  · exact ⟨⟨oc, od, kV, doc, pm, an, cdv, ct, osl, e, lk, hcd⟩, F.kp⟩
  · exact absurd rfl q
end
/-! ### defs as they are written -/
def fnWA (K : PySem.W.Frag) (a : Addr) : He.FnW := match K.lookup a with
  | some ⟨_, _, .func fd, _⟩ => some (fd.name, fd.qualname, fd.params, fd.body, fd.scope, fd.globals, fd.closure, fd.builtins)
  | _ => none
def fnB (K : PySem.W.Frag) (a : Addr) (qual : Str) (dvs : List V) : Bool := PySem.W.keepIn K (.ref a) && (match K.lookup a with
  | some ⟨_, _, .func fd, _⟩ => PySem.W.codeIn K fd.code qual && He.dflB K fd.defaults dvs
  | _ => false)
def fnVal (x qual : Str) (st : Stmt) : He.FnW := some (x, qual, defArgs st, .stmts (defBody st), defScope st, mainGlobals, [], builtinsNs)
theorem and2 {a b : Bool} (h : (a && b) = true) : a = true ∧ b = true := by
  cases a <;> cases b <;> simp_all
theorem funD_of {K : PySem.W.Frag} {a : Addr} {x qual : Str} {st : Stmt} {dvs : List V} (e : fnWA K a = fnVal x qual st) (c : fnB K a qual dvs = true) : ∃ fd, FunX K x qual st dvs a fd := by
  obtain ⟨kp, c2⟩ := and2 c
  unfold fnWA fnVal at e
  cases q : K.lookup a with
  | none => rw [q] at c2; cases c2
  | some o =>
    obtain ⟨oc, od, dt, osl⟩ := o
    rw [q] at c2 e
    cases dt with
    | func fd =>
      obtain ⟨n1, n2, n3, n4, n5, n6, n7, n8, n9, n10, n11, n12, n13, n14, n15⟩ := fd
      simp only [Option.some.injEq, Prod.mk.injEq] at e
      obtain ⟨h1, h2, h3, h4, h5, h6, h7, h8⟩ := e
      subst h1 h2 h3 h4 h5 h6 h7 h8
      obtain ⟨k1, k2⟩ := and2 c2
      exact ⟨_, ⟨oc, od, n8, n9, n10, n11, n12, n13, n14, osl, rfl, q, k1, He.dflB_ok k2, .inl rfl⟩, kp⟩
    | _ => cases c2
/-! ### classes -/
def clsB (K : PySem.W.Frag) (C : Addr) : Bool := PySem.W.plainGet K C Str.empty && (PySem.W.hasDictIn K C && (PySem.W.plainOver K C && decide (PySem.W.findIn K (.ref C) "__setattr__" = some (some (.builtin "object.__setattr__")))))
theorem clsB_ok {K : PySem.W.Frag} {C : Addr} (h : clsB K C = true) : Cls K C := by
  obtain ⟨h1, h⟩ := and2 h
  obtain ⟨h2, h⟩ := and2 h
  obtain ⟨h3, h⟩ := and2 h
  exact ⟨h1, h2, h3, of_decide_eq_true h⟩
def noatB (K : PySem.W.Frag) (C : Addr) (f : Str) : Bool := decide (PySem.W.findIn K (.ref C) f = some none)
theorem noatB_ok {K : PySem.W.Frag} {C : Addr} {f : Str} (h : noatB K C f = true) : NoAttr K C f := show PySem.W.findIn K (.ref C) f = some none from of_decide_eq_true h
def mkB (K : PySem.W.Frag) (C f : Addr) : Bool := PySem.W.makesIn K C && (decide (PySem.W.findIn K (.ref C) "__init__" = some (some (.ref f))) && (PySem.W.isFn K (.ref f) && PySem.W.keepIn K (.ref C)))
theorem mkB_ok {K : PySem.W.Frag} {C f : Addr} (h : mkB K C f = true) : Mk K C f := by
  obtain ⟨h1, h⟩ := and2 h
  obtain ⟨h2, h⟩ := and2 h
  obtain ⟨h3, h⟩ := and2 h
  exact ⟨h1, of_decide_eq_true h2, h3, h⟩
def getOf (K : PySem.W.Frag) (p : Addr) : Addr := match PySem.W.recIn K p "property" with
  | some (.ref g :: _) => g
  | _ => 0
def propB (K : PySem.W.Frag) (C : Addr) (f : Str) (p g : Addr) : Bool := decide (PySem.W.findIn K (.ref C) f = some (some (.ref p))) && (decide (PySem.W.specialIn K (.ref p) "__get__" = some (some (.builtin "property.__get__"))) && (decide (PySem.W.takesIn K (.ref p) = some true) && (match PySem.W.recIn K p "property" with
  | some (.ref q :: _) => decide (q = g)
  | _ => false)))
theorem propB_ok {K : PySem.W.Frag} {C : Addr} {f : Str} {p g : Addr} (h : propB K C f p g = true) : PropOf K C f p g := by
  obtain ⟨h1, h⟩ := and2 h
  obtain ⟨h2, h⟩ := and2 h
  obtain ⟨h3, h⟩ := and2 h
  refine ⟨of_decide_eq_true h1, of_decide_eq_true h2, of_decide_eq_true h3, ?_⟩
  split at h
  · rename_i q r e
    exact ⟨r, by rw [e, of_decide_eq_true h]⟩
  · cases h
def refOr (o : Option (Option Value)) : Bool := match o with
  | some none => true
  | some (some (.ref _)) => true
  | _ => false
theorem refOr_ok {o : Option (Option Value)} (h : refOr o = true) : ∃ rc, o = some rc ∧ (rc = none ∨ ∃ g : Addr, rc = some (.ref g)) := by
  unfold refOr at h
  split at h
  · exact ⟨none, rfl, .inl rfl⟩
  · exact ⟨_, rfl, .inr ⟨_, rfl⟩⟩
  · cases h
def bin1B (K : PySem.W.Frag) (C : Addr) (nm : String) (g : Addr) : Bool := PySem.W.selfFirst K C && (decide (PySem.W.findIn K (.ref C) (PySem.dunder nm) = some (some (.ref g))) && refOr (PySem.W.findIn K (.ref C) (dunderR nm)))
theorem bin1B_ok {K : PySem.W.Frag} {C g : Addr} {nm : String} (h : bin1B K C nm g = true) : Bin1 K C nm g := by
  obtain ⟨h1, h⟩ := and2 h
  obtain ⟨h2, h⟩ := and2 h
  exact ⟨h1, of_decide_eq_true h2, refOr_ok h⟩
def binB (K : PySem.W.Frag) (cl : Nat → Addr) (cs : List Nat) (nm : String) (g : Addr) : Bool := cs.all (fun c => bin1B K (cl c) nm g && (decide (PySem.W.subIn K (.type "int") (.ref (cl c)) = some false) && cs.all fun c' => decide (cl c = cl c') || decide (PySem.W.subIn K (.ref (cl c')) (.ref (cl c)) = some false))) &&
  (PySem.W.isFn K (.ref g) && ((PySem.W.findIn K (.type "int") (PySem.dunder nm)).isSome && (PySem.W.findIn K (.type "int") (dunderR nm)).isSome))
theorem binB_ok {K : PySem.W.Frag} {cl : Nat → Addr} {cs : List Nat} {nm : String} {g : Addr} {okc : Nat → Bool} (hc : ∀ c, okc c = true → c ∈ cs) (h : binB K cl cs nm g = true) : BinC K ⟨K, cl⟩ okc nm g := by
  obtain ⟨h1, h⟩ := and2 h
  obtain ⟨h2, h⟩ := and2 h
  obtain ⟨h3, h4⟩ := and2 h
  have a := fun c hk => and2 (List.all_eq_true.mp h1 c (hc c hk))
  refine ⟨fun c hk => bin1B_ok (a c hk).1, fun c c' hk hk' hne => ?_, h2, Option.isSome_iff_exists.mp h3, Option.isSome_iff_exists.mp h4, fun c hk => of_decide_eq_true (and2 (a c hk).2).1⟩
  have := List.all_eq_true.mp (and2 (a c hk).2).2 c' (hc c' hk')
  rcases Bool.or_eq_true_iff.mp this with q | q
  · exact absurd (of_decide_eq_true q) hne
  · exact of_decide_eq_true q
def clsIB (K : PySem.W.Frag) (C : Addr) : Bool := clsB K C && (decide (PySem.W.findIn K (.ref C) "__class__" = some (some (.builtin "object.__class__"))) && (decide (PySem.W.specialIn K (.builtin "object.__class__") "__get__" = some (some (.builtin "getset_descriptor.__get__"))) && (decide (PySem.W.takesIn K (.builtin "object.__class__") = some true) && decide (PySem.W.mroIn K C (.type "object") = some true))))
theorem clsIB_ok {K : PySem.W.Frag} {C : Addr} (h : clsIB K C = true) : ClsI K C := by
  obtain ⟨h1, h⟩ := and2 h
  obtain ⟨h2, h⟩ := and2 h
  obtain ⟨h3, h⟩ := and2 h
  obtain ⟨h4, h⟩ := and2 h
  exact ⟨clsB_ok h1, of_decide_eq_true h2, of_decide_eq_true h3, of_decide_eq_true h4, of_decide_eq_true h⟩
def isiB (K : PySem.W.Frag) (cl : Nat → Addr) (ts : List String) (cs : List Nat) (u : Value) (pb : String → Option Bool) (pc : Nat → Option Bool) : Bool :=
  ts.all (fun T => match pb T with
    | some k => decide (PySem.W.kitOne K (.type T) u = some k)
    | none => true) && cs.all fun c => match pc c with
    | some k => clsIB K (cl c) && decide (PySem.W.kitOne K (.ref (cl c)) u = some k)
    | none => true
theorem isiB_ok {K : PySem.W.Frag} {cl : Nat → Addr} {ts : List String} {cs : List Nat} {u : Value} {pb : String → Option Bool} {pc : Nat → Option Bool} (ht : ∀ T k, pb T = some k → T ∈ ts) (hc : ∀ c k, pc c = some k → c ∈ cs) (h : isiB K cl ts cs u pb pc = true) : IsiOk ⟨K, cl⟩ u pb pc := by
  obtain ⟨h1, h2⟩ := and2 h
  refine ⟨fun T k e => ?_, fun c k e => ?_⟩
  · have := List.all_eq_true.mp h1 T (ht T k e)
    rw [e] at this
    exact of_decide_eq_true this
  · have := List.all_eq_true.mp h2 c (hc c k e)
    rw [e] at this
    obtain ⟨a, b⟩ := and2 this
    exact ⟨clsIB_ok a, of_decide_eq_true b⟩
/-! ### constants -/
def gVal (K : PySem.W.Frag) (x : Str) : Value := match PySem.W.nsIn K mainGlobals x with
  | some (some u) => u
  | _ => .none
def valV : Value → V
  | .bool b => .bl b
  | .int i _ => .int i
  | .str x _ => .str x
  | .ref a => .ref a
  | _ => .non
mutual
def cstB (K : PySem.W.Frag) : D → Value → Bool
  | .non, .none => true
  | .bl b, .bool c => b == c
  | .int i, .int j _ => decide (i = j)
  | .str x, .str y _ => decide (s2 x = y)
  | .tup ds, .ref a => (match K.lookup a with
    | some ⟨.type c, _, .seq its _, _⟩ => decide (c = "tuple") && (decide (its.size ≤ sizeLine) && cstsB K ds its.toList)
    | _ => false)
  | _, _ => false
def cstsB (K : PySem.W.Frag) : List D → List Value → Bool
  | [], [] => true
  | d :: ds, u :: us => cstB K d u && cstsB K ds us
  | _, _ => false
end
mutual
theorem cstB_ok {K : PySem.W.Frag} {cl : Nat → Addr} : ∀ (d : D) (u : Value), cstB K d u = true → RelV (valV u) u ∧ ∀ m Z H, Rep ⟨K, cl⟩ m Z H d (valV u)
  | .non, u, h => by
    cases u <;> first | (simp [cstB] at h; done) | skip
    exact ⟨rfl, fun _ _ _ => .non⟩
  | .bl b, u, h => by
    cases u <;> first | (simp [cstB] at h; done) | skip
    simp only [cstB, beq_iff_eq] at h
    subst h
    exact ⟨rfl, fun _ _ _ => .bl _⟩
  | .int i, u, h => by
    cases u <;> first | (simp [cstB] at h; done) | skip
    simp only [cstB, decide_eq_true_eq] at h
    subst h
    exact ⟨⟨_, rfl⟩, fun _ _ _ => .int _⟩
  | .str x, u, h => by
    cases u <;> first | (simp [cstB] at h; done) | skip
    simp only [cstB, decide_eq_true_eq] at h
    subst h
    exact ⟨⟨_, rfl⟩, fun _ _ _ => .str _⟩
  | .tup ds, u, h => by
    cases u <;> first | (simp [cstB] at h; done) | skip
    rename_i a
    refine ⟨rfl, fun m Z H => ?_⟩
    unfold cstB at h
    split at h
    · rename_i c od its n osl e
      obtain ⟨h1, h⟩ := and2 h
      obtain ⟨h2, h3⟩ := and2 h
      obtain ⟨r1, r2⟩ := cstsB_ok (cl := cl) ds its.toList h3
      exact .gtup (vs := its.toList.map valV) ⟨_, its, n, e, congrArg Value.type (of_decide_eq_true h1), rfl, of_decide_eq_true h2, r1⟩ (r2 m Z H)
    · cases h
  | .lst _, u, h => by cases u <;> simp [cstB] at h
  | .frl _, u, h => by cases u <;> simp [cstB] at h
  | .dk _, u, h => by cases u <;> simp [cstB] at h
  | .dt _, u, h => by cases u <;> simp [cstB] at h
  | .ins _ _, u, h => by cases u <;> simp [cstB] at h
  | .exc _ _, u, h => by cases u <;> simp [cstB] at h
  | .obj _, u, h => by cases u <;> simp [cstB] at h
theorem cstsB_ok {K : PySem.W.Frag} {cl : Nat → Addr} : ∀ (ds : List D) (us : List Value), cstsB K ds us = true → Vals (us.map valV) us ∧ ∀ m Z H, Reps ⟨K, cl⟩ m Z H ds (us.map valV)
  | [], [], _ => ⟨.nil, fun _ _ _ => .nil⟩
  | [], _ :: _, h => by simp [cstsB] at h
  | _ :: _, [], h => by simp [cstsB] at h
  | d :: ds, u :: us, h => by
    unfold cstsB at h
    obtain ⟨h1, h2⟩ := and2 h
    obtain ⟨a, b⟩ := cstB_ok (cl := cl) d u h1
    obtain ⟨c, e⟩ := cstsB_ok (cl := cl) ds us h2
    exact ⟨.cons a c, fun m Z H => .cons (b m Z H) (e m Z H)⟩
end
def hasG (K : PySem.W.Frag) (x : Str) : Bool := match PySem.W.nsIn K mainGlobals x with
  | some (some _) => true
  | _ => false
theorem hasG_ok {K : PySem.W.Frag} {h : Heap} {mg : Str → Option Value} {x : Str} (X : K.In h) (G : h.Ns mainGlobals mg) (c : hasG K x = true) : mg x = some (gVal K x) := by
  unfold hasG at c
  unfold gVal
  split at c
  · rename_i u e
    exact PySem.W.mg_of X G e
  · cases c
def gloB (K : PySem.W.Frag) (x : Str) : Bool := decide (PySem.W.nsIn K mainGlobals x = some (some (.ref (He.ga K x))))
theorem gloB_ok {K : PySem.W.Frag} {h : Heap} {mg : Str → Option Value} {x : Str} (X : K.In h) (G : h.Ns mainGlobals mg) (c : gloB K x = true) : mg x = some (.ref (He.ga K x)) := PySem.W.mg_of X G (of_decide_eq_true c)
def freeB (K : PySem.W.Frag) (x : Str) : Bool := decide (PySem.W.nsIn K mainGlobals x = some none)
theorem freeB_ok {K : PySem.W.Frag} {h : Heap} {mg : Str → Option Value} {x : Str} (X : K.In h) (G : h.Ns mainGlobals mg) (c : freeB K x = true) : mg x = none := PySem.W.mg_none_of X G (of_decide_eq_true c)
end DL

set_option maxRecDepth 100000
set_option maxHeartbeats 2000000
/-! The value layer: own == and != with anything on the right. -/
namespace DL
open PySem L2
open PySem.W PyProof.Rows in
theorem own_ifNe {M : Model} {K : Frag} {x C : Addr} {ox : Obj} {od : Option Obj} {A : Around} {E : Value → Shared → Prop} {s : Shared} {args : List Value} {Q : Option Value → Shared → Prop} (X : K.In s.heap) (I : InstAt s.heap x ox C od) (hs : findIn K (.ref C) "__ne__" = some (some (.builtin "object.__ne__")))
    (h : wpAny M A (call (.builtin "object.__ne__") (.ref x :: args)) (fun v => Q (some v)) E s) : wpAny M A (callSpecialIfBound? (.ref x) "__ne__" args) Q E s := by
  simp only [callSpecialIfBound?, bindSpecialIfBound?]
  refine wpAny_holding (wpAny_bind (wpAny_bind (wpAny_bind (I.type.here ((looks_findIn X hs).here ?_)))))
  refine wpAny_bind (wpAny_askSetting (wpAny_ite ?_))
  have fin : wpAny M A (call (.builtin "object.__ne__") ([.ref x] ++ args) >>= fun v => pure (some v)) Q E s := wpAny_bind (wpAny_mono h (fun v s' h' => wpAny_pure h') fun _ _ h' => h')
  split
  · exact wpAny_bind (wpAny_of_eq (F.cmp_object.ne.bind _) (wpAny_pure (by exact fin)))
  · exact wpAny_tryCatch (wpAny_bind (wpAny_of_eq (F.cmp_object.ne.bind _) (wpAny_pure (by exact fin))))
open PySem.W PyProof.Rows in
theorem own_neEntry {prog : Program} {pw : World} {A : Around} {E : Value → Shared → Prop} {s : Shared} {K : Frag} {x C f : Addr} {ox : Obj} {od : Option Obj} {b : Value} {Q : Fin → Shared → Prop} (hu : A.units < cLine) (X : K.In s.heap) (I : InstAt s.heap x ox C od)
    (hs : findIn K (.ref C) "__eq__" = some (some (.ref f))) (hf : isFn K (.ref f) = true) (h : wpAny (model prog pw) A (call (.ref f) [.ref x, b]) (fun v s' => ∃ k, v = .bool k ∧ Q (.done (.ret (.bool (!k)))) s') E s) :
    wpAny (model prog pw) A (Builtin.«object.__ne__» ⟨[.ref x, b], []⟩) Q E s := by
  unfold Builtin.«object.__ne__»
  repeat (first
    | with_reducible refine wpAny_cRoomFor hu ?_
    | (refine wpAny_bind (m := callSpecialIfBound? (.ref x) (Str.ofString "__eq__") [b])
        (ifBound_K X I hs hf (wpAny_mono h (fun r s' hr => by
          obtain ⟨k, rfl, hq⟩ := hr
          repeat (first | exact hq | exact wpAny_pure hq | exact wpAny_truthy_bool hq | (refine wpAny_bind (m := truthy (.bool _)) (wpAny_truthy_bool ?_)) | wp_step)) fun _ _ e => e)))
    | wp_step)
open PySem.W PyProof.Rows in
theorem own_ne {prog : Program} {pw : World} {A : Around} {E : Value → Shared → Prop} {s : Shared} {K : Frag} {x C f : Addr} {ox : Obj} {od : Option Obj} {b tb : Value} {Q : Value → Shared → Prop} (hu : A.units + 1 < cLine) (X : K.In s.heap) (I : InstAt s.heap x ox C od) (hb : Looks (model prog pw) s.heap (typeOf b) tb) (hn : notFirst K C tb = true)
    (hm : mroIn K C (.type "object") = some true) (hs : findIn K (.ref C) "__eq__" = some (some (.ref f))) (hs' : findIn K (.ref C) "__ne__" = some (some (.builtin "object.__ne__"))) (hf : isFn K (.ref f) = true)
    (h : wpAny (model prog pw) A.in1 (call (.ref f) [.ref x, b]) (fun v s' => ∃ k, v = .bool k ∧ Q (.bool (!k)) s') E s) :
    wpAny (model prog pw) A (richCompare .NotEq (.ref x) b) Q E s := by
  have one : wpAny (model prog pw) A (tryCompare (.ref x) "__ne__" b) (fun r s' => ∃ v, r = some v ∧ Q v s') E s := by
    unfold tryCompare
    refine wpAny_bind (own_ifNe X I hs' (wpAny_call (codeAny_call_builtin F.cmp_object.ne.plain F.cmpEntry_ne (check_slot F.cmpKind_ne F.cmpSplit_ne (I.type.andThen (looks_mroIn X hm)) (F.cmpArgs_ne _ _)
      (own_neEntry (A := A.in1) hu X I hs hf (wpAny_mono h (fun v s' hv => ?_) fun _ _ e => e))))))
    obtain ⟨k, rfl, hq⟩ := hv
    exact ⟨k, rfl, wpAny_pure ⟨_, rfl, hq⟩⟩
  unfold richCompare
  simp only [oneThing_ref]
  refine wpAny_holding (wpAny_bind (wpAny_cRoomFor (Nat.lt_of_succ_lt hu) ?_))
  refine wpAny_bind (I.type.here (wpAny_bind (hb.here ?_)))
  split
  · rename_i q
    have e : subIn K tb (.ref C) = some false := by
      rcases Bool.or_eq_true_iff.mp hn with e | e
      · rw [beq_iff_eq.mp e] at q; simp at q
      · exact beq_iff_eq.mp e
    refine wpAny_bind ((looks_subIn X e).here ?_)
    simp only [Bool.false_eq_true, if_false]
    refine wpAny_bind (wpAny_mono one (fun r s' z => ?_) fun _ _ e => e)
    obtain ⟨v, rfl, hq⟩ := z
    exact wpAny_pure hq
  · refine wpAny_bind (wpAny_pure ?_)
    simp only [Bool.false_eq_true, if_false]
    refine wpAny_bind (wpAny_mono one (fun r s' z => ?_) fun _ _ e => e)
    obtain ⟨v, rfl, hq⟩ := z
    exact wpAny_pure hq
section
variable {w : Wd} {W : WX} {X : Cx}
/-- what an own == asks of the classes -/
structure CmpC (K : PySem.W.Frag) (w : Wd) (okc : Nat → Bool) (okt : String → Bool) (g : Addr) : Prop where
  ci : ∀ c, okc c = true → ClsI K (w.cl c)
  eq : ∀ c, okc c = true → PySem.W.findIn K (.ref (w.cl c)) "__eq__" = some (some (.ref g))
  ne : ∀ c, okc c = true → PySem.W.findIn K (.ref (w.cl c)) "__ne__" = some (some (.builtin "object.__ne__"))
  fn : PySem.W.isFn K (.ref g) = true
  nt : ∀ c T, okc c = true → okt T = true → PySem.W.notFirst K (w.cl c) (.type T) = true
  nc : ∀ c c', okc c = true → okc c' = true → PySem.W.notFirst K (w.cl c) (.ref (w.cl c')) = true
def rEqO (K : PySem.W.Frag) (C : Addr) (sp : Sp) : R2 := fun x y H Q => ∃ a dx fs t, x = .ref a ∧ H a = some (.ins C dx fs) ∧ TyX K H y t ∧ PySem.W.notFirst K C t = true ∧ sp [x, y] H Q E0
def rNeO (K : PySem.W.Frag) (C : Addr) (sp : Sp) : R2 := fun x y H Q => ∃ a dx fs t, x = .ref a ∧ H a = some (.ins C dx fs) ∧ TyX K H y t ∧ PySem.W.notFirst K C t = true ∧ sp [x, y] H (fun v H' => ∃ b, v = .bl b ∧ Q (.bl (!b)) H') E0
theorem op_eqO {k : Nat} {C g : Addr} {fd : FuncData} {ps : List Str} {sp : Sp} (hs : PySem.W.findIn X.K (.ref C) "__eq__" = some (some (.ref g))) (hf : PySem.W.isFn X.K (.ref g) = true) (F : FnOk X.prog X.w X.K X.mg X.base CX0 k g fd ps sp) (hr : Room k X.A) (hb : Binds X.K fd ps []) :
    OpR X (compareOp .Eq) (rEqO X.K C sp) := by
  intro pins s σ H x y v u Q I rx ry h
  obtain ⟨a, dx, fs, t, rfl, ha, ty, hn, q⟩ := h
  cases (show v = Value.ref a from rx)
  obtain ⟨od, J⟩ := ins_look I ha
  obtain ⟨m, fr⟩ := I.fr
  obtain ⟨P, Z, p, _⟩ := kit_of I ry ty
  have go : wpAny (model X.prog X.w) X.A (call (.ref g) [.ref a, u]) (PySem.W.CmpBack (EP X pins σ Q)) X.xe s :=
    wpAny_mono (run_in (vs := [.ref a, y]) F hr I.env0 hb I (.cons (show RelV (.ref a) (.ref a) from rfl) (.cons ry .nil)) q) (fun v s' ⟨z, H', I', rz, qz⟩ => back_of rz ⟨z, H', I', rz, qz⟩) fun _ _ e => e
  exact PySem.W.cmp_K (op := .Eq) hr.units0 fr I.ok.mod.kin J (Z.ty _ _ I.kIn p) hn hs hf go
theorem op_neO {k : Nat} {C g : Addr} {fd : FuncData} {ps : List Str} {sp : Sp} (hm : PySem.W.mroIn X.K C (.type "object") = some true) (hs : PySem.W.findIn X.K (.ref C) "__eq__" = some (some (.ref g))) (hs' : PySem.W.findIn X.K (.ref C) "__ne__" = some (some (.builtin "object.__ne__"))) (hf : PySem.W.isFn X.K (.ref g) = true)
    (F : FnOk X.prog X.w X.K X.mg X.base CX0 k g fd ps sp) (hr : Room (k + 1) X.A) (hb : Binds X.K fd ps []) : OpR X (compareOp .NotEq) (rNeO X.K C sp) := by
  intro pins s σ H x y v u Q I rx ry h
  obtain ⟨a, dx, fs, t, rfl, ha, ty, hn, q⟩ := h
  cases (show v = Value.ref a from rx)
  obtain ⟨od, J⟩ := ins_look I ha
  obtain ⟨P, Z, p, _⟩ := kit_of I ry ty
  have go : wpAny (model X.prog X.w) X.A.in1 (call (.ref g) [.ref a, u]) (fun v s' => ∃ k, v = .bool k ∧ EP X pins σ Q (.bool (!k)) s') X.xe s :=
    wpAny_mono (run_in (vs := [.ref a, y]) F hr.in1 I.env0.in1 hb I (.cons (show RelV (.ref a) (.ref a) from rfl) (.cons ry .nil)) q) (fun v s' ⟨z, H', I', rz, b, eb, qz⟩ => by
      subst eb
      cases (show v = Value.bool b from rz)
      exact ⟨b, rfl, .bl (!b), H', I', rfl, qz⟩) fun _ _ e => e
  exact own_ne (units_of hr) I.kIn J (Z.ty _ _ I.kIn p) hn hm hs hs' hf go
/-- a == b, a != b by the own def F of the left -/
def okD (okc : Nat → Bool) (okt : String → Bool) (d : D) : Bool := match d with
  | .ins c _ => okc c
  | d => match tyD d with
    | some T => okt T
    | none => false
theorem okD_ty {K : PySem.W.Frag} {cl : Nat → Addr} {okc : Nat → Bool} {okt : String → Bool} {g : Addr} (cc : CmpC K w okc okt g) (hK : K = w.K) {m : List Addr} {Z : Addr → Prop} {H : Hp} {d : D} {v : V} {c : Nat} (hc : okc c = true) (h : Look w m Z H d v) (e : okD okc okt d = true) :
    ∃ t, TyX K H v t ∧ PySem.W.notFirst K (w.cl c) t = true := by
  subst hK
  cases d with
  | ins c' fs =>
    obtain ⟨a, dx, gs, rfl, hi, rn⟩ := h.ins
    have ci := cc.ci c' e
    exact ⟨_, .base (.ins hi ci.cl ci.ha ci.hn ci.ht ci.hm), cc.nc c c' hc e⟩
  | _ =>
    unfold okD at e
    dsimp only at e
    split at e
    · rename_i T eT
      exact ⟨_, tyD_ok h eT, cc.nt c T hc e⟩
    · cases e
def sEqO (F : SF) (okc : Nat → Bool) (okt : String → Bool) (f u : SE) : SE := fun ρ S => (f ρ S).bind fun a S1 => (u ρ S1).bind fun b S2 => match a.1 with
  | .ins c _ => if okc c = true ∧ okD okc okt (view S2 b.1) = true then (match F [(a.1, lend a.2), (b.1, lend b.2)] S2 with
      | .ok r S3 => .ok r S3
      | _ => .bad) else .bad
  | _ => .bad
def sNeO (F : SF) (okc : Nat → Bool) (okt : String → Bool) (f u : SE) : SE := fun ρ S => (f ρ S).bind fun a S1 => (u ρ S1).bind fun b S2 => match a.1 with
  | .ins c _ => if okc c = true ∧ okD okc okt (view S2 b.1) = true then (match F [(a.1, lend a.2), (b.1, lend b.2)] S2 with
      | .ok (.bl k, _) S3 => .ok (.bl (!k), .sh) S3
      | _ => .bad) else .bad
  | _ => .bad
theorem ent_not {np : Nat} {F : SF} {g : G} {ρ : Loc} {S : Store} {σ : L2.St} {H : Hp} {r q : RV} {v u : V} {Q : VK} {E : XK} (rel : Rel w g ρ S σ H) (h : Arg w g.m g.Z H r v) (h' : Arg w g.m g.Z H q u) (hn : np = 2)
    (post : PostE w W ρ σ Q g H (match F [(r.1, lend r.2), (q.1, lend q.2)] S with
      | .ok (.bl k, _) S3 => .ok (.bl (!k), .sh) S3
      | _ => .bad)) : spF w np F [v, u] H (fun v H' => ∃ b, v = .bl b ∧ Q (.bl (!b)) H') E := by
  refine ent_two (W := W) (ρ := ρ) (σ := σ) rel h h' hn ?_
  cases e : F [(r.1, lend r.2), (q.1, lend q.2)] S with
  | exc x S2 => rw [e] at post; exact post.elim
  | bad => rw [e] at post; exact post.elim
  | ok q S2 =>
    rw [e] at post
    obtain ⟨d, fl⟩ := q
    cases d with
    | bl b =>
      intro v' H' k
      obtain ⟨m', s', rel', res⟩ := k
      have l : Look w m' g.Z H' (.bl b) v' := (Res.arg res).read.look
      exact ⟨b, l.bl, post _ _ ⟨m', s', rel', .bl (!b)⟩⟩
    | _ => exact post.elim
theorem rd_eqO {np : Nat} {g0 : Addr} {F : SF} {okc : Nat → Bool} {okt : String → Bool} {f u : SE} {σ : L2.St} {H : Hp} {Q : VK} (hn : np = 2) (hK : X.K = w.K) (cc : CmpC X.K w okc okt g0) (h : rdE w W (sEqO F okc okt f u) σ H Q) :
    tOp (fun x y H Q => ∃ c, okc c = true ∧ rEqO X.K (w.cl c) (spF w np F) x y H Q) (rdE w W f) (rdE w W u) σ H Q := by
  obtain ⟨gh, ρ, S, rel, h⟩ := h
  refine rdE_imp (bindE rel h goodE) fun x H1 ⟨r1, S1, m1, s1, rel1, res1, _, h1⟩ => ?_
  refine rdE_imp (bindE rel1 h1 goodE) fun y H2 ⟨r2, S2, m2, s2, rel2, res2, _, h2⟩ => ?_
  have a1 := s2.arg res1.arg
  obtain ⟨d1, f1⟩ := r1
  cases d1 with
  | ins c fs =>
    dsimp only at h2
    split at h2
    rotate_left
    · exact h2.elim
    rename_i oc
    obtain ⟨p, dx, gs, rfl, hi, rn⟩ := (Read.look a1.read).ins
    obtain ⟨t, ty, nf⟩ := okD_ty (cl := w.cl) cc hK oc.1 (look_view rel2 res2.arg) oc.2
    exact ⟨c, oc.1, p, dx, gs, t, rfl, hi, ty, nf, ent_two (r := (.ins c fs, f1)) rel2 a1 res2.arg hn h2⟩
  | _ => exact h2.elim
theorem rd_neO {np : Nat} {g0 : Addr} {F : SF} {okc : Nat → Bool} {okt : String → Bool} {f u : SE} {σ : L2.St} {H : Hp} {Q : VK} (hn : np = 2) (hK : X.K = w.K) (cc : CmpC X.K w okc okt g0) (h : rdE w W (sNeO F okc okt f u) σ H Q) :
    tOp (fun x y H Q => ∃ c, okc c = true ∧ rNeO X.K (w.cl c) (spF w np F) x y H Q) (rdE w W f) (rdE w W u) σ H Q := by
  obtain ⟨gh, ρ, S, rel, h⟩ := h
  refine rdE_imp (bindE rel h goodE) fun x H1 ⟨r1, S1, m1, s1, rel1, res1, _, h1⟩ => ?_
  refine rdE_imp (bindE rel1 h1 goodE) fun y H2 ⟨r2, S2, m2, s2, rel2, res2, _, h2⟩ => ?_
  have a1 := s2.arg res1.arg
  obtain ⟨d1, f1⟩ := r1
  cases d1 with
  | ins c fs =>
    dsimp only at h2
    split at h2
    rotate_left
    · exact h2.elim
    rename_i oc
    obtain ⟨p, dx, gs, rfl, hi, rn⟩ := (Read.look a1.read).ins
    obtain ⟨t, ty, nf⟩ := okD_ty (cl := w.cl) cc hK oc.1 (look_view rel2 res2.arg) oc.2
    exact ⟨c, oc.1, p, dx, gs, t, rfl, hi, ty, nf, ent_not (r := (.ins c fs, f1)) rel2 a1 res2.arg hn h2⟩
  | _ => exact h2.elim
section
variable {k np : Nat} {g : Addr} {fd : FuncData} {ps : List Str} {F : SF} {okc : Nat → Bool} {okt : String → Bool} {a b : Expr} {f u : SE} {pos : Pos}
theorem op_eqC (cc : CmpC X.K w okc okt g) (G : FnOk X.prog X.w X.K X.mg X.base CX0 k g fd ps (spF w np F)) (hr : Room (k + 1) X.A) (hb : Binds X.K fd ps []) :
    OpR X (compareOp .Eq) (fun x y H Q => ∃ c, okc c = true ∧ rEqO X.K (w.cl c) (spF w np F) x y H Q) := OpR.any fun c hc => op_eqO (cc.eq c hc) cc.fn G (hr.mono (by omega)) hb
theorem op_neC (cc : CmpC X.K w okc okt g) (G : FnOk X.prog X.w X.K X.mg X.base CX0 k g fd ps (spF w np F)) (hr : Room (k + 1) X.A) (hb : Binds X.K fd ps []) :
    OpR X (compareOp .NotEq) (fun x y H Q => ∃ c, okc c = true ∧ rNeO X.K (w.cl c) (spF w np F) x y H Q) := OpR.any fun c hc => op_neO (cc.ci c hc).hm (cc.eq c hc) (cc.ne c hc) cc.fn G hr hb
theorem e_eqO (hK : X.K = w.K) (hn : np = 2) (cc : CmpC X.K w okc okt g) (G : FnOk X.prog X.w X.K X.mg X.base CX0 k g fd ps (spF w np F)) (hr : Room (k + 1) X.A) (hb : Binds X.K fd ps [])
    (ha : PE X a (rdE w W f)) (hb' : PE X b (rdE w W u)) (hm : behindInMarks .Eq b = false := by first | exact nomark _ | with_unfolding_all rfl) : PE X (.Compare a [.Eq] [b] pos) (rdE w W (sEqO F okc okt f u)) :=
  PE.imp (pe_cmpR (op_eqC cc G hr hb) ha hb' hm) fun _ _ _ h => rd_eqO hn hK cc h
theorem e_neO (hK : X.K = w.K) (hn : np = 2) (cc : CmpC X.K w okc okt g) (G : FnOk X.prog X.w X.K X.mg X.base CX0 k g fd ps (spF w np F)) (hr : Room (k + 1) X.A) (hb : Binds X.K fd ps [])
    (ha : PE X a (rdE w W f)) (hb' : PE X b (rdE w W u)) (hm : behindInMarks .NotEq b = false := by first | exact nomark _ | with_unfolding_all rfl) : PE X (.Compare a [.NotEq] [b] pos) (rdE w W (sNeO F okc okt f u)) :=
  PE.imp (pe_cmpR (op_neC cc G hr hb) ha hb' hm) fun _ _ _ h => rd_neO hn hK cc h
theorem t_eqO (hK : X.K = w.K) (hn : np = 2) (cc : CmpC X.K w okc okt g) (G : FnOk X.prog X.w X.K X.mg X.base CX0 k g fd ps (spF w np F)) (hr : Room (k + 1) X.A) (hb : Binds X.K fd ps [])
    (ha : PE X a (rdE w W f)) (hb' : PE X b (rdE w W u)) (hm : behindInMarks .Eq b = false := by first | exact nomark _ | with_unfolding_all rfl) : PT X (.Compare a [.Eq] [b] pos) (rdT w W (sT (sEqO F okc okt f u))) :=
  PT.imp (pt_cmpR (op_eqC cc G hr hb) ha hb' hm) fun _ _ _ h => rd_eqO hn hK cc (rdT_sT h)
theorem t_neO (hK : X.K = w.K) (hn : np = 2) (cc : CmpC X.K w okc okt g) (G : FnOk X.prog X.w X.K X.mg X.base CX0 k g fd ps (spF w np F)) (hr : Room (k + 1) X.A) (hb : Binds X.K fd ps [])
    (ha : PE X a (rdE w W f)) (hb' : PE X b (rdE w W u)) (hm : behindInMarks .NotEq b = false := by first | exact nomark _ | with_unfolding_all rfl) : PT X (.Compare a [.NotEq] [b] pos) (rdT w W (sT (sNeO F okc okt f u))) :=
  PT.imp (pt_cmpR (op_neC cc G hr hb) ha hb' hm) fun _ _ _ h => rd_neO hn hK cc (rdT_sT h)
end
/-! ### asked by truths -/
def cmpCB (K : PySem.W.Frag) (cl : Nat → Addr) (cs : List Nat) (ts : List String) (g : Addr) : Bool := PySem.W.isFn K (.ref g) && cs.all fun c => clsIB K (cl c) && (decide (PySem.W.findIn K (.ref (cl c)) "__eq__" = some (some (.ref g))) && (decide (PySem.W.findIn K (.ref (cl c)) "__ne__" = some (some (.builtin "object.__ne__"))) &&
  (ts.all (fun T => PySem.W.notFirst K (cl c) (.type T)) && cs.all fun c' => PySem.W.notFirst K (cl c) (.ref (cl c')))))
theorem cmpCB_ok {K : PySem.W.Frag} {cl : Nat → Addr} {cs : List Nat} {ts : List String} {g : Addr} {okc : Nat → Bool} {okt : String → Bool} (hc : ∀ c, okc c = true → c ∈ cs) (ht : ∀ T, okt T = true → T ∈ ts) (h : cmpCB K cl cs ts g = true) : CmpC K ⟨K, cl⟩ okc okt g := by
  obtain ⟨h1, h2⟩ := and2 h
  have a := fun c hk => and2 (List.all_eq_true.mp h2 c (hc c hk))
  refine ⟨fun c hk => clsIB_ok (a c hk).1, fun c hk => of_decide_eq_true (and2 (a c hk).2).1, fun c hk => of_decide_eq_true (and2 (and2 (a c hk).2).2).1, h1, fun c T hk hT => ?_, fun c c' hk hk' => ?_⟩
  · exact List.all_eq_true.mp (and2 (and2 (and2 (a c hk).2).2).2).1 T (ht T hT)
  · exact List.all_eq_true.mp (and2 (and2 (and2 (a c hk).2).2).2).2 c' (hc c' hk')
end
end DL

set_option maxRecDepth 100000
set_option maxHeartbeats 2000000
/-! The value layer: C.m(..), m a staticmethod of the class C. -/
namespace DL
open PySem L2
/-- C.m is a staticmethod: its record at p, its def at g -/
structure SMet (K : PySem.W.Frag) (C : Addr) (mc : Value) (m : Str) (p g : Addr) : Prop where
  cr : ClX.CRead K C mc
  at_ : PySem.W.findCls K (.ref C) mc m = some (.get (.builtin "staticmethod.__get__") (.ref p) .none (.ref C))
  rc : ∃ rest, PySem.W.recIn K p "staticmethod" = some (.ref g :: rest)
  kp : PySem.W.keepIn K (.ref g) = true
section
variable {w : Wd} {W : WX} {X : Cx} {pins : List (Addr × Obj)} {σ : L2.St} {H : Hp} {s : Shared}
theorem getmethsm_ok {A : Around} {E : Value → Shared → Prop} {C p g : Addr} {mc : Value} {m : Str} {pl : Sem Bool} {Q : Value × List Value → Shared → Prop} (I : Inv X pins σ H s) (k : SMet X.K C mc m p g)
    (h : ∀ s', Inv X pins σ H s' → Q (.ref g, []) s') : wpAny (model X.prog X.w) A (getMethod (.ref C) m pl) Q E s := by
  obtain ⟨rest, hp⟩ := k.rc
  refine PySem.W.method_cls I.kIn k.cr.ga ?_
  refine PySem.W.cls_bind I.kIn k.cr.rd k.at_ ?_
  refine wpAny_call (PySem.W.sm_get (s := { s with toks := s.toks + 1 }) I.kIn hp (PySem.W.handed_on rfl ?_))
  exact h _ (I.tok _)
variable {k : Nat} {C p g : Addr} {mc : Value} {sp : Sp} {E : XK} {o e : Expr} {es : List Expr} {m : Str} {pos apos : Pos} {t : TA} {pl : Sem Bool} {fd : FuncData} {ps : List Str} {ds : List Value} {dvs : List V}
theorem pe_smeth (he : PE X o (tC (.ref C))) (c : SMet X.K C mc m p g) (F : FnOk X.prog X.w X.K X.mg X.base CX0 k g fd ps sp) (hr : Room k X.A) (hb : Binds X.K fd ps ds) (hd : Vals dvs ds) (hx : Passes CX0 X E) (ha : PA X (e :: es) t)
    (hst : starEach (e :: es) X.env = (false, eval e X.env) :: starEach es X.env) (hpl : (backTo pos (starEach es X.env)).any (·.1) = false)
    (ht : eval (.Call (.Attribute o m apos) (e :: es) [] pos) X.env = (do
      let ov ← eval o X.env
      standAt apos.atName
      let (f, first) ← holding [ov] (getMethod ov m pl)
      callWith pos f first (backTo pos (starEach (e :: es) X.env)) (backToKw pos (keywordEach [] X.env)))) :
    PE X (.Call (.Attribute o m apos) (e :: es) [] pos) (tCall sp dvs E t) := by
  refine ⟨fun pins s σ H Q I h => ?_⟩
  refine PySem.W.methodCall_KW (pl := pl) (thn (he.run pins s σ H (fun x H1 => x = .ref C ∧ tCall sp dvs E t σ H1 Q) I ⟨rfl, h⟩) fun u s1 ⟨x, H1, I1, rx, ex, q⟩ => ?_) ht
  subst ex
  obtain rfl : u = Value.ref C := rx
  refine getmethsm_ok I1 c fun s2 I2 => ?_
  refine PySem.W.callWith_K (h₀ := X.base) (first := []) I2.ok.mod.kin c.kp (thn (ha.run pos pins s2 σ H1 _ I2 q) fun us s3 ⟨vs, H2, I3, r, q⟩ => ⟨I3.kIn, ?_⟩) hst hpl
  exact run_fn F hr hb hd hx I3 r q
/-- C.m(..) -/
theorem e_smeth {np : Nat} {F : SF} {drs : List RV} {fs : SA} (he : PE X o (tC (.ref C))) (c : SMet X.K C mc m p g) (G : FnOk X.prog X.w X.K X.mg X.base CX0 k g fd ps (spF w np F)) (hr : Room k X.A) (hb : Binds X.K fd ps ds) (hd : Vals dvs ds) (hdr : DefOk w drs dvs)
    (hst : starEach (e :: es) X.env = (false, eval e X.env) :: starEach es X.env) (hpl : (backTo pos (starEach es X.env)).any (·.1) = false)
    (ht : eval (.Call (.Attribute o m apos) (e :: es) [] pos) X.env = (do
      let ov ← eval o X.env
      standAt apos.atName
      let (f, first) ← holding [ov] (getMethod ov m pl)
      callWith pos f first (backTo pos (starEach (e :: es) X.env)) (backToKw pos (keywordEach [] X.env)))) (ha : PA X (e :: es) (rdA w W fs)) :
    PE X (.Call (.Attribute o m apos) (e :: es) [] pos) (rdE w W (sCall np F drs fs)) :=
  PE.imp (pe_smeth he c G hr hb hd pass0 ha hst hpl ht) fun _ _ _ h => rd_call hdr h
end
/-! ### asked by truths -/
def isSM (p C : Addr) : Option PySem.W.CFound → Bool
  | some (.get (.builtin b) (.ref q) .none (.ref D)) => decide (b = "staticmethod.__get__") && (decide (q = p) && decide (D = C))
  | _ => false
theorem isSM_ok {p C : Addr} {o : Option PySem.W.CFound} (h : isSM p C o = true) : o = some (.get (.builtin "staticmethod.__get__") (.ref p) .none (.ref C)) := by
  unfold isSM at h
  split at h
  · obtain ⟨h1, h⟩ := and2 h
    obtain ⟨h2, h3⟩ := and2 h
    rw [of_decide_eq_true h1, of_decide_eq_true h2, of_decide_eq_true h3]
  · cases h
def smB (K : PySem.W.Frag) (C : Addr) (mc : Value) (m : Str) (p g : Addr) : Bool := PySem.W.readsIn K C mc && (decide (PySem.W.specialIn K (.ref C) "__getattribute__" = some (some (.builtin "type.__getattribute__"))) && (isSM p C (PySem.W.findCls K (.ref C) mc m) && (PySem.W.keepIn K (.ref g) && match PySem.W.recIn K p "staticmethod" with
  | some (.ref q :: _) => decide (q = g)
  | _ => false)))
theorem smB_ok {K : PySem.W.Frag} {C : Addr} {mc : Value} {m : Str} {p g : Addr} (h : smB K C mc m p g = true) : SMet K C mc m p g := by
  obtain ⟨h1, h⟩ := and2 h
  obtain ⟨h2, h⟩ := and2 h
  obtain ⟨h3, h⟩ := and2 h
  obtain ⟨h4, h⟩ := and2 h
  refine ⟨⟨h1, of_decide_eq_true h2⟩, isSM_ok h3, ?_, h4⟩
  split at h
  · rename_i q r e
    exact ⟨r, by rw [e, of_decide_eq_true h]⟩
  · cases h
def smOf (K : PySem.W.Frag) (p : Addr) : Addr := match PySem.W.recIn K p "staticmethod" with
  | some (.ref g :: _) => g
  | _ => 0
end DL

set_option maxRecDepth 100000
set_option maxHeartbeats 2000000
/-! The value layer: a list turned round. -/
namespace DL
open PySem L2
section
variable {w : Wd} {W : WX} {X : Cx}
def oRev (a : RV) (S : Store) : Option RV := match view S a.1 with
  | .lst ds => some (.lst ds.reverse, .own)
  | _ => none
theorem Reps.reverse {m : List Addr} {Z : Addr → Prop} {H : Hp} : ∀ {ds : List D} {vs : List V}, Reps w m Z H ds vs → Reps w m Z H ds.reverse vs.reverse
  | _, _, .nil => .nil
  | _, _, .cons a r => by
    rw [List.reverse_cons, List.reverse_cons]
    exact (Reps.reverse r).app (.cons a .nil)
theorem e_revL {e : Expr} {f : SE} {k : Nat} {p1 p2 p3 pos : Pos} (hK : X.K = w.K) (he : PE X e (rdE w W f)) : PE X (.Subscript e (.Slice none none (some (.UnaryOp .USub (.Constant (.int 1) k p1) p2)) p3) pos) (rdE w W (sOp1 oRev f)) := by
  refine PE.imp (L2.pe_revL he) fun σ H Q ⟨g, ρ, S, rel, h⟩ => ?_
  refine rdE_imp (bindE rel h goodE) fun v H1 ⟨r1, S1, m1, s1, rel1, res1, _, h1⟩ => ?_
  obtain ⟨q, e1, h4⟩ := post_opt h1
  have lk := look_view rel1 res1.arg
  unfold oRev at e1
  split at e1
  · rename_i ds ea
    rw [ea] at lk
    cases e1
    obtain ⟨p, vs, rfl, hp, rp⟩ := lk.lst
    exact ⟨p, vs, rfl, .of hp, fun t ht => h4 _ _ (.lst rel1 (Reps.reverse rp) ht)⟩
  · cases e1
/-- {} -/
def sDict0 : SE := fun _ S => .ok (.dk [], .own) S
theorem e_dict0 {pos : Pos} : PE X (.Dict [] [] pos) (rdE w W sDict0) := PE.imp pe_dnewK fun σ H Q ⟨g, ρ, S, rel, h⟩ p hp => h _ _ (.box rel hp (.dk upd_same .nil))
end
end DL

set_option maxRecDepth 100000
set_option maxHeartbeats 4000000
namespace K25
open PySem L2 DL
def okP (c : Nat) : Bool := decide (1 ≤ c) && decide (c ≤ 8)
structure Sem where
  told : SF
  s_Program_of : SF
  plen : SF
  peq : SF
  padd : SF
  pmul : SF
  i_Do : SF
  i_Return : SF
  i_Go : SF
  i_End : SF
  i_If : SF
  i_While : SF
  i_Forever : SF
  i_Row : SF
  is_number : SF
  is_name : SF
  sized : SF
  need_program : SF
  need_name : SF
  parts_of : SF
  made_end : SF
  made : SF
  L_begin : SF
  L_draw : SF
  L_pick : SF
  L_rounds : SF
  L_kept : SF
  L_name : SF
  L_kit : SF
  L_last : SF
  L_part : SF
  L_told : SF
  L_insides : SF
  L_many : SF
  L_joined : SF
  L_built : SF
  L_loosened : SF
  L_other : SF
  L_class_right : SF
  L_is : SF
  L_strange : SF
  law : SF
def k_DEEPEST : D := .int 60
def k_KEPT : D := .tup [.str "ask", .str "do", .str "else", .str "end", .str "go", .str "if", .str "not", .str "pass", .str "piece", .str "return", .str "true", .str "while"]
def k_LETTERS : D := .str "abcdefghijklmnopqrstuvwxyz"
def k_LONGEST : D := .int 8
def k_MOST_PARTS : D := .int 5000
def k_MOST_TIMES : D := .int 1000
def k_NOTHING : D := .tup [.str "row", .tup []]
def okT (t : String) : Bool := decide (t = "int") || decide (t = "bool") || decide (t = "str") || decide (t = "tuple") || decide (t = "list") || decide (t = "dict") || decide (t = "NoneType")
def pb_Asking (t : String) : Option Bool := if okT t = true then some false else none
def pc_Asking (c : Nat) : Option Bool := if okP c = true then some (decide (c ∈ [5, 6])) else none
def pb_Do (t : String) : Option Bool := if okT t = true then some false else none
def pc_Do (c : Nat) : Option Bool := if okP c = true then some (decide (c ∈ [1])) else none
def pb_End (t : String) : Option Bool := if okT t = true then some false else none
def pc_End (c : Nat) : Option Bool := if okP c = true then some (decide (c ∈ [4])) else none
def pb_Forever (t : String) : Option Bool := if okT t = true then some false else none
def pc_Forever (c : Nat) : Option Bool := if okP c = true then some (decide (c ∈ [7])) else none
def pb_Go (t : String) : Option Bool := if okT t = true then some false else none
def pc_Go (c : Nat) : Option Bool := if okP c = true then some (decide (c ∈ [3])) else none
def pb_If (t : String) : Option Bool := if okT t = true then some false else none
def pc_If (c : Nat) : Option Bool := if okP c = true then some (decide (c ∈ [5])) else none
def pb_Loop (t : String) : Option Bool := if okT t = true then some false else none
def pc_Loop (c : Nat) : Option Bool := if okP c = true then some (decide (c ∈ [6, 7])) else none
def pb_Program (t : String) : Option Bool := if okT t = true then some false else none
def pc_Program (c : Nat) : Option Bool := if okP c = true then some (decide (c ∈ [1, 2, 3, 4, 5, 6, 7, 8])) else none
def pb_Return (t : String) : Option Bool := if okT t = true then some false else none
def pc_Return (c : Nat) : Option Bool := if okP c = true then some (decide (c ∈ [2])) else none
def pb_Row (t : String) : Option Bool := if okT t = true then some false else none
def pc_Row (c : Nat) : Option Bool := if okP c = true then some (decide (c ∈ [8])) else none
def pb_While (t : String) : Option Bool := if okT t = true then some false else none
def pc_While (c : Nat) : Option Bool := if okP c = true then some (decide (c ∈ [6])) else none
def pb_bool (t : String) : Option Bool := if t = "int" then some false else if t = "bool" then some true else if t = "str" then some false else if t = "tuple" then some false else if t = "list" then some false else if t = "dict" then some false else if t = "NoneType" then some false else none
def pc_bool (_ : Nat) : Option Bool := none
def pb_int (t : String) : Option Bool := if t = "int" then some true else if t = "bool" then some true else if t = "str" then some false else if t = "tuple" then some false else if t = "list" then some false else if t = "dict" then some false else if t = "NoneType" then some false else none
def pc_int (_ : Nat) : Option Bool := none
def pb_str (t : String) : Option Bool := if t = "int" then some false else if t = "bool" then some false else if t = "str" then some true else if t = "tuple" then some false else if t = "list" then some false else if t = "dict" then some false else if t = "NoneType" then some false else none
def pc_str (_ : Nat) : Option Bool := none
def pb_tuple (t : String) : Option Bool := if t = "int" then some false else if t = "bool" then some false else if t = "str" then some false else if t = "tuple" then some true else if t = "list" then some false else if t = "dict" then some false else if t = "NoneType" then some false else none
def pc_tuple (_ : Nat) : Option Bool := none
noncomputable def v_told (E : Sem) : SS := (sSeq (sRet (sOp2 oIdx (sFld "held" (sVar 0) okP) (sCst (.int 0))))
  sSkip)
noncomputable def v_s_Program_of (E : Sem) : SS := (sSeq (sRet (sCall 1 E.made [] (sCons (sVar 0) sNil)))
  sSkip)
noncomputable def v_plen (E : Sem) : SS := (sSeq (sRet (sB1 oLen (sOp2 oIdx (sFld "held" (sVar 0) okP) (sCst (.int 1)))))
  sSkip)
noncomputable def v_peq (E : Sem) : SS := (sSeq (sRet (sAnd (sIsi (isiP pb_Program pc_Program) (sVar 1)) (sOp2 oEq (sOp2 oIdx (sFld "held" (sVar 0) okP) (sCst (.int 0))) (sOp2 oIdx (sFld "held" (sVar 1) okP) (sCst (.int 0))))))
  sSkip)
noncomputable def v_padd (E : Sem) : SS := (sSeq (sDrop (sCall 1 E.need_program [] (sCons (sVar 1) sNil)))
  (sSeq (sRet (sMake 2 E.i_Row [] (sCons (sTup (sCons (sVar 0) (sCons (sVar 1) sNil))) sNil)))
  sSkip))
noncomputable def v_pmul (E : Sem) : SS := (sSeq (sIfS (tOrS (tNotS (sT (sCall 1 E.is_number [] (sCons (sVar 1) sNil)))) (tNotS (sT (sChain oLe oLe (sCst (.int 0)) (sVar 1) (sCst k_MOST_TIMES)))))
  (sSeq sBadS
  sSkip)
  sSkip)
  (sSeq (sRet (sMake 2 E.i_Row [] (sCons (sOp2 oMul (sTup (sCons (sVar 0) sNil)) (sVar 1)) sNil)))
  sSkip))
noncomputable def v_i_Do (E : Sem) : SS := (sSeq (sDrop (sCall 1 E.need_name [] (sCons (sVar 1) sNil)))
  (sSeq (sFldS "held" (sCall 3 E.sized [] (sCons (sTup (sCons (sCst (.str "do")) (sCons (sVar 1) sNil))) (sCons (sCst (.int 1)) (sCons (sCst (.int 1)) sNil)))) okP)
  sSkip))
noncomputable def v_i_Return (E : Sem) : SS := (sSeq (sDrop (sCall 1 E.need_name [] (sCons (sVar 1) sNil)))
  (sSeq (sFldS "held" (sCall 3 E.sized [] (sCons (sTup (sCons (sCst (.str "return")) (sCons (sVar 1) sNil))) (sCons (sCst (.int 1)) (sCons (sCst (.int 1)) sNil)))) okP)
  sSkip))
noncomputable def v_i_Go (E : Sem) : SS := (sSeq (sDrop (sCall 1 E.need_name [] (sCons (sVar 1) sNil)))
  (sSeq (sFldS "held" (sCall 3 E.sized [] (sCons (sTup (sCons (sCst (.str "go")) (sCons (sVar 1) sNil))) (sCons (sCst (.int 1)) (sCons (sCst (.int 1)) sNil)))) okP)
  sSkip))
noncomputable def v_i_End (E : Sem) : SS := (sSeq (sFldS "held" (sCall 3 E.sized [] (sCons (sTup (sCons (sCst (.str "end")) sNil)) (sCons (sCst (.int 1)) (sCons (sCst (.int 1)) sNil)))) okP)
  sSkip)
noncomputable def v_i_If (E : Sem) : SS := (sSeq (sDrop (sCall 1 E.need_name [] (sCons (sVar 1) sNil)))
  (sSeq (sDrop (sCall 1 E.need_program [] (sCons (sVar 2) sNil)))
  (sSeq (sDrop (sCall 1 E.need_program [] (sCons (sVar 3) sNil)))
  (sSeq (sFldS "held" (sCall 3 E.sized [] (sCons (sTup (sCons (sCst (.str "if")) (sCons (sVar 1) (sCons (sProp E.told okP (sVar 2)) (sCons (sProp E.told okP (sVar 3)) sNil))))) (sCons (sOp2 oAdd (sOp2 oAdd (sCst (.int 1)) (sLenO E.plen okP (sCons (sVar 2) sNil))) (sLenO E.plen okP (sCons (sVar 3) sNil))) (sCons (sOp2 oAdd (sCst (.int 1)) (sB2 oMax2 (sOp2 oIdx (sFld "held" (sVar 2) okP) (sCst (.int 2))) (sOp2 oIdx (sFld "held" (sVar 3) okP) (sCst (.int 2))))) sNil)))) okP)
  sSkip))))
noncomputable def v_i_While (E : Sem) : SS := (sSeq (sDrop (sCall 1 E.need_name [] (sCons (sVar 1) sNil)))
  (sSeq (sDrop (sCall 1 E.need_program [] (sCons (sVar 2) sNil)))
  (sSeq (sIfS (tNotS (sT (sIsi (isiP pb_bool pc_bool) (sVar 3))))
  (sSeq sBadS
  sSkip)
  sSkip)
  (sSeq (sFldS "held" (sCall 3 E.sized [] (sCons (sTup (sCons (sCst (.str "while")) (sCons (sVar 1) (sCons (sVar 3) (sCons (sProp E.told okP (sVar 2)) sNil))))) (sCons (sOp2 oAdd (sCst (.int 1)) (sLenO E.plen okP (sCons (sVar 2) sNil))) (sCons (sOp2 oAdd (sCst (.int 1)) (sOp2 oIdx (sFld "held" (sVar 2) okP) (sCst (.int 2)))) sNil)))) okP)
  sSkip))))
noncomputable def v_i_Forever (E : Sem) : SS := (sSeq (sDrop (sCall 1 E.need_program [] (sCons (sVar 1) sNil)))
  (sSeq (sIfS (sT (sOp2 oEq (sProp E.told okP (sVar 1)) (sCst k_NOTHING)))
  (sSeq sBadS
  sSkip)
  sSkip)
  (sSeq (sFldS "held" (sCall 3 E.sized [] (sCons (sTup (sCons (sCst (.str "forever")) (sCons (sProp E.told okP (sVar 1)) sNil))) (sCons (sOp2 oAdd (sCst (.int 1)) (sLenO E.plen okP (sCons (sVar 1) sNil))) (sCons (sOp2 oAdd (sCst (.int 1)) (sOp2 oIdx (sFld "held" (sVar 1) okP) (sCst (.int 2)))) sNil)))) okP)
  sSkip)))
noncomputable def v_i_Row (E : Sem) : SS := (sSeq (sIfS (tNotS (sT (sIsi (isiP pb_tuple pc_tuple) (sVar 1))))
  (sSeq sBadS
  sSkip)
  sSkip)
  (sSeq (sSet 2 (sLst sNil))
  (sSeq (sSet 3 (sCst (.int 0)))
  (sSeq (sSet 4 (sCst (.int 1)))
  (sSeq (sFor (sSeqI (sVar 1)) (gNm 5)
  (sSeq (sDrop (sCall 1 E.need_program [] (sCons (sVar 5) sNil)))
  (sSeq (sAsg (gTp 3 (gAnd (gNm 6) (gAnd (gNm 7) (gAnd (gNm 8) gNo)))) (sFld "held" (sVar 5) okP))
  (sSeq (sSet 9 (sCall 1 E.parts_of [] (sCons (sVar 6) sNil)))
  (sSeq (sSet 3 (sOp2 oAdd (sVar 3) (sIf (sT (sOp2 oEq (sB1 oLen (sVar 9)) (sCst (.int 1)))) (sB1 oLen (sVar 7)) (sOp2 oSub (sB1 oLen (sVar 7)) (sCst (.int 1))))))
  (sSeq (sSet 4 (sB2 oMax2 (sVar 4) (sVar 8)))
  (sSeq (sIfS (sT (sOp2 oGt (sVar 3) (sCst k_MOST_PARTS)))
  (sSeq sBadS
  sSkip)
  sSkip)
  (sSeq (sSet 2 (sOp2 oAdd (sVar 2) (sB1 oLstOf (sVar 9))))
  sSkip))))))))
  (sSeq (sIfS (sT (sOp2 oEq (sB1 oLen (sVar 2)) (sCst (.int 1))))
  (sSeq (sFldS "held" (sCall 3 E.sized [] (sCons (sOp2 oIdx (sVar 2) (sCst (.int 0))) (sCons (sVar 3) (sCons (sVar 4) sNil)))) okP)
  sSkip)
  (sSeq (sFldS "held" (sCall 3 E.sized [] (sCons (sTup (sCons (sCst (.str "row")) (sCons (sB1 oTupOf (sVar 2)) sNil))) (sCons (sOp2 oAdd (sVar 3) (sCst (.int 1))) (sCons (sVar 4) sNil)))) okP)
  sSkip))
  sSkip))))))
noncomputable def v_is_number (E : Sem) : SS := (sSeq (sRet (sAnd (sIsi (isiP pb_int pc_int) (sVar 0)) (sNot (sIsi (isiP pb_bool pc_bool) (sVar 0)))))
  sSkip)
noncomputable def v_is_name (E : Sem) : SS := (sSeq (sIfS (tOrS (tNotS (sT (sIsi (isiP pb_str pc_str) (sVar 0)))) (tOrS (tNotS (sT (sChain oLe oLe (sCst (.int 1)) (sB1 oLen (sVar 0)) (sCst k_LONGEST)))) (sT (sOp2 oIn (sVar 0) (sCst k_KEPT)))))
  (sSeq (sRet (sCst (.bl false)))
  sSkip)
  sSkip)
  (sSeq (sRet (sB1 oAll (sLc (sSeqI (sVar 0)) (gNm 1) sYes (sOp2 oIn (sVar 1) (sCst k_LETTERS)) [1])))
  sSkip))
noncomputable def v_sized (E : Sem) : SS := (sSeq (sIfS (tOrS (sT (sOp2 oGt (sVar 1) (sCst k_MOST_PARTS))) (sT (sOp2 oGt (sVar 2) (sCst k_DEEPEST))))
  (sSeq sBadS
  sSkip)
  sSkip)
  (sSeq (sRet (sTup (sCons (sVar 0) (sCons (sOp2 oMul (sTup (sCons (sCst (.int 0)) sNil)) (sVar 1)) (sCons (sVar 2) sNil)))))
  sSkip))
noncomputable def v_need_program (E : Sem) : SS := (sSeq (sIfS (tNotS (sT (sIsi (isiP pb_Program pc_Program) (sVar 0))))
  (sSeq sBadS
  sSkip)
  sSkip)
  sSkip)
noncomputable def v_need_name (E : Sem) : SS := (sSeq (sIfS (tNotS (sT (sCall 1 E.is_name [] (sCons (sVar 0) sNil))))
  (sSeq sBadS
  sSkip)
  sSkip)
  sSkip)
noncomputable def v_parts_of (E : Sem) : SS := (sSeq (sRet (sIf (sT (sOp2 oEq (sOp2 oIdx (sVar 0) (sCst (.int 0))) (sCst (.str "row")))) (sOp2 oIdx (sVar 0) (sCst (.int 1))) (sTup (sCons (sVar 0) sNil))))
  sSkip)
noncomputable def v_made_end (E : Sem) : SS := (sSeq (sIfS (sT (sOp2 oEq (sVar 0) (sTup (sCons (sCst (.str "end")) sNil))))
  (sSeq (sRet (sMake 1 E.i_End [] sNil))
  sSkip)
  sSkip)
  (sSeq (sIfS (tOrS (sT (sOp2 oNe (sB1 oLen (sVar 0)) (sCst (.int 2)))) (sT (sOp2 oEq (sOp2 oIdx (sVar 0) (sCst (.int 0))) (sCst (.str "end")))))
  (sSeq sBadS
  sSkip)
  sSkip)
  (sSeq (sIfS (sT (sOp2 oEq (sOp2 oIdx (sVar 0) (sCst (.int 0))) (sCst (.str "do"))))
  (sSeq (sRet (sMake 2 E.i_Do [] (sCons (sOp2 oIdx (sVar 0) (sCst (.int 1))) sNil)))
  sSkip)
  sSkip)
  (sSeq (sRet (sIf (sT (sOp2 oEq (sOp2 oIdx (sVar 0) (sCst (.int 0))) (sCst (.str "return")))) (sMake 2 E.i_Return [] (sCons (sOp2 oIdx (sVar 0) (sCst (.int 1))) sNil)) (sMake 2 E.i_Go [] (sCons (sOp2 oIdx (sVar 0) (sCst (.int 1))) sNil))))
  sSkip))))
noncomputable def v_made (E : Sem) : SS := (sSeq (sIfS (tOrS (tNotS (sT (sIsi (isiP pb_tuple pc_tuple) (sVar 0)))) (tOrS (sT (sOp2 oEq (sVar 0) (sTup sNil))) (tNotS (sT (sIsi (isiP pb_str pc_str) (sOp2 oIdx (sVar 0) (sCst (.int 0))))))))
  (sSeq sBadS
  sSkip)
  sSkip)
  (sSeq (sSet 1 (sOp2 oIdx (sVar 0) (sCst (.int 0))))
  (sSeq (sIfS (sT (sOp2 oIn (sVar 1) (sTup (sCons (sCst (.str "do")) (sCons (sCst (.str "return")) (sCons (sCst (.str "go")) (sCons (sCst (.str "end")) sNil)))))))
  (sSeq (sRet (sCall 1 E.made_end [] (sCons (sVar 0) sNil)))
  sSkip)
  sSkip)
  (sSeq (sIfS (tAndS (sT (sOp2 oEq (sVar 1) (sCst (.str "if")))) (sT (sOp2 oEq (sB1 oLen (sVar 0)) (sCst (.int 4)))))
  (sSeq (sRet (sMake 4 E.i_If [] (sCons (sOp2 oIdx (sVar 0) (sCst (.int 1))) (sCons (sCall 1 E.made [] (sCons (sOp2 oIdx (sVar 0) (sCst (.int 2))) sNil)) (sCons (sCall 1 E.made [] (sCons (sOp2 oIdx (sVar 0) (sCst (.int 3))) sNil)) sNil)))))
  sSkip)
  sSkip)
  (sSeq (sIfS (tAndS (sT (sOp2 oEq (sVar 1) (sCst (.str "while")))) (sT (sOp2 oEq (sB1 oLen (sVar 0)) (sCst (.int 4)))))
  (sSeq (sRet (sMake 4 E.i_While [] (sCons (sOp2 oIdx (sVar 0) (sCst (.int 1))) (sCons (sCall 1 E.made [] (sCons (sOp2 oIdx (sVar 0) (sCst (.int 3))) sNil)) (sCons (sOp2 oIdx (sVar 0) (sCst (.int 2))) sNil)))))
  sSkip)
  sSkip)
  (sSeq (sIfS (tOrS (sT (sOp2 oNe (sB1 oLen (sVar 0)) (sCst (.int 2)))) (sT (sOp2 oNotIn (sVar 1) (sTup (sCons (sCst (.str "forever")) (sCons (sCst (.str "row")) sNil))))))
  (sSeq sBadS
  sSkip)
  sSkip)
  (sSeq (sIfS (sT (sOp2 oEq (sVar 1) (sCst (.str "forever"))))
  (sSeq (sRet (sMake 2 E.i_Forever [] (sCons (sCall 1 E.made [] (sCons (sOp2 oIdx (sVar 0) (sCst (.int 1))) sNil)) sNil)))
  sSkip)
  sSkip)
  (sSeq (sIfS (tNotS (sT (sIsi (isiP pb_tuple pc_tuple) (sOp2 oIdx (sVar 0) (sCst (.int 1))))))
  (sSeq sBadS
  sSkip)
  sSkip)
  (sSeq (sSet 2 (sNew (sLst sNil)))
  (sSeq (sFor (sSeqI (sOp2 oIdx (sVar 0) (sCst (.int 1)))) (gNm 3)
  (sSeq (sDrop (sAppO (sVar 2) (sCons (sCall 1 E.made [] (sCons (sVar 3) sNil)) sNil)))
  sSkip))
  (sSeq (sRet (sMake 2 E.i_Row [] (sCons (sB1 oTupOf (sVar 2)) sNil)))
  sSkip)))))))))))
noncomputable def v_L_begin (E : Sem) : SS := (sSeq (sSet 1 (sLc (sSeqI (sVar 0)) (gNm 2) sYes (sB1 oAbs (sVar 2)) [2]))
  (sSeq (sRet (sNew (sDict [((sCst (.str "large")), (sNew (sLc (sSeqI (sVar 1)) (gNm 2) (sT (sOp2 oGe (sVar 2) (sOp2 oPow (sCst (.int 10)) (sCst (.int 18))))) (sOp2 oSub (sVar 2) (sOp2 oPow (sCst (.int 10)) (sCst (.int 18)))) [2]))), ((sCst (.str "cells")), (sVar 1)), ((sCst (.str "rest")), (sCst (.int 0))), ((sCst (.str "turn")), (sCst (.int 0)))])))
  sSkip))
noncomputable def v_L_draw (E : Sem) : SS := (sSeq (sWhile (tAndS (sT (sOp2 oEq (sOp2 oDGet (sVar 0) (sCst (.str "rest"))) (sCst (.int 0)))) (sT (sOp2 oNe (sOp2 oDGet (sVar 0) (sCst (.str "large"))) (sLst sNil))))
  (sSeq (sPut (sVar 0) (sCst (.str "rest")) (sPopO (sOp2 oDGet (sVar 0) (sCst (.str "large"))) (sCons (sCst (.int 0)) sNil)))
  sSkip))
  (sSeq (sIfS (sT (sOp2 oGt (sOp2 oDGet (sVar 0) (sCst (.str "rest"))) (sCst (.int 0))))
  (sSeq (sSet 2 (sOp2 oMod (sB1 oInt (sOp2 oDGet (sVar 0) (sCst (.str "rest")))) (sVar 1)))
  (sSeq (sPut (sVar 0) (sCst (.str "rest")) (sOp2 oFdiv (sOp2 oDGet (sVar 0) (sCst (.str "rest"))) (sVar 1)))
  (sSeq (sRet (sVar 2))
  sSkip)))
  sSkip)
  (sSeq (sSet 3 (sOp2 oAdd (sOp2 oDGet (sVar 0) (sCst (.str "turn"))) (sCst (.int 1))))
  (sSeq (sPut (sVar 0) (sCst (.str "turn")) (sVar 3))
  (sSeq (sSet 4 (sIf (sT (sOp2 oNe (sOp2 oDGet (sVar 0) (sCst (.str "cells"))) (sLst sNil))) (sOp2 oIdx (sOp2 oDGet (sVar 0) (sCst (.str "cells"))) (sOp2 oMod (sB1 oInt (sVar 3)) (sB1 oLen (sOp2 oDGet (sVar 0) (sCst (.str "cells")))))) (sCst (.int 0))))
  (sSeq (sSet 5 (sOp2 oMod (sB1 oInt (sOp2 oPow (sOp2 oAdd (sOp2 oAdd (sOp2 oMod (sB1 oInt (sVar 4)) (sCst (.int 2147483629))) (sOp2 oMul (sCst (.int 69621)) (sVar 3))) (sCst (.int 12345))) (sCst (.int 3)))) (sCst (.int 2147483647))))
  (sSeq (sRet (sOp2 oMod (sB1 oInt (sOp2 oFdiv (sOp2 oMod (sB1 oInt (sOp2 oPow (sOp2 oAdd (sVar 5) (sOp2 oMul (sCst (.int 104729)) (sVar 3))) (sCst (.int 5)))) (sCst (.int 2147483587))) (sCst (.int 13)))) (sVar 1)))
  sSkip)))))))
noncomputable def v_L_pick (E : Sem) : SS := (sSeq (sRet (sOp2 oIdx (sVar 1) (sCall 2 E.L_draw [] (sCons (sVar 0) (sCons (sB1 oLen (sVar 1)) sNil)))))
  sSkip)
noncomputable def v_L_rounds (E : Sem) : SS := (sSeq (sRet (sOp2 oAdd (sVar 1) (sB2 oMin2 (sOp2 oSub (sVar 2) (sVar 1)) (sB1 oLen (sVar 0)))))
  sSkip)
noncomputable def v_L_kept (E : Sem) : SS := (sSeq (sRet (sLst (sCons (sCst (.str "ask")) (sCons (sCst (.str "do")) (sCons (sCst (.str "else")) (sCons (sCst (.str "end")) (sCons (sCst (.str "go")) (sCons (sCst (.str "if")) (sCons (sCst (.str "not")) (sCons (sCst (.str "pass")) (sCons (sCst (.str "piece")) (sCons (sCst (.str "return")) (sCons (sCst (.str "true")) (sCons (sCst (.str "while")) sNil))))))))))))))
  sSkip)
noncomputable def v_L_name (E : Sem) : SS := (sSeq (sSet 1 (sCall 2 E.L_draw [] (sCons (sVar 0) (sCons (sCst (.int 6)) sNil))))
  (sSeq (sIfS (sT (sOp2 oLt (sVar 1) (sCst (.int 3))))
  (sSeq (sRet (sCall 2 E.L_pick [] (sCons (sVar 0) (sCons (sLst (sCons (sCst (.str "a")) (sCons (sCst (.str "b")) (sCons (sCst (.str "p")) (sCons (sCst (.str "q")) sNil))))) sNil))))
  sSkip)
  sSkip)
  (sSeq (sIfS (sT (sOp2 oEq (sVar 1) (sCst (.int 3))))
  (sSeq (sSet 2 (sLst (sCons (sCst (.str "asks")) (sCons (sCst (.str "dos")) (sCons (sCst (.str "ends")) (sCons (sCst (.str "iff")) (sCons (sCst (.str "pieces")) (sCons (sCst (.str "gone")) (sCons (sCst (.str "start")) (sCons (sCst (.str "on")) (sCons (sCst (.str "yes")) (sCons (sCst (.str "no")) (sCons (sCst (.str "row")) (sCons (sCst (.str "none")) sNil))))))))))))))
  (sSeq (sRet (sCall 2 E.L_pick [] (sCons (sVar 0) (sCons (sVar 2) sNil))))
  sSkip))
  sSkip)
  (sSeq (sSet 3 (sCst (.str "abcdefghijklmnopqrstuvwxyz")))
  (sSeq (sSet 4 (sJoin (sCst (.str "")) (sLc (sRng1 (sCons (sOp2 oAdd (sCst (.int 1)) (sCall 2 E.L_draw [] (sCons (sVar 0) (sCons (sCst (.int 8)) sNil)))) sNil)) (gNm 5) sYes (sCall 2 E.L_pick [] (sCons (sVar 0) (sCons (sVar 3) sNil))) [5])))
  (sSeq (sRet (sIf (sT (sOp2 oIn (sVar 4) (sCall 0 E.L_kept [] sNil))) (sOp2 oAdd (sVar 4) (sCst (.str "x"))) (sVar 4)))
  sSkip))))))
noncomputable def v_L_kit (E : Sem) : SS := (sSeq (sSet 3 (sLc (sRng1 (sCons (sOp2 oAdd (sCst (.int 2)) (sCall 2 E.L_draw [] (sCons (sVar 0) (sCons (sCst (.int 3)) sNil)))) sNil)) (gNm 4) sYes (sCall 1 E.L_name [] (sCons (sVar 0) sNil)) [4]))
  (sSeq (sRet (sNew (sDict [((sCst (.str "names")), (sVar 3)), ((sCst (.str "left")), (sVar 1)), ((sCst (.str "gos")), (sB1 oLstOf (sVar 2)))])))
  sSkip))
noncomputable def v_L_last (E : Sem) : SS := (sSeq (sSet 2 (sCall 2 E.L_pick [] (sCons (sVar 0) (sCons (sOp2 oDGet (sVar 1) (sCst (.str "names"))) sNil))))
  (sSeq (sSet 3 (sIf (sT (sOp2 oNe (sOp2 oDGet (sVar 1) (sCst (.str "gos"))) (sLst sNil))) (sLst (sCons (sTup (sCons (sCst (.str "go")) (sCons (sCall 2 E.L_pick [] (sCons (sVar 0) (sCons (sOp2 oDGet (sVar 1) (sCst (.str "gos"))) sNil))) sNil))) sNil)) (sLst sNil)))
  (sSeq (sRet (sCall 2 E.L_pick [] (sCons (sVar 0) (sCons (sOp2 oAdd (sOp2 oAdd (sOp2 oMul (sLst (sCons (sTup (sCons (sCst (.str "do")) (sCons (sVar 2) sNil))) sNil)) (sCst (.int 5))) (sLst (sCons (sTup (sCons (sCst (.str "return")) (sCons (sVar 2) sNil))) (sCons (sTup (sCons (sCst (.str "end")) sNil)) sNil)))) (sOp2 oMul (sVar 3) (sCst (.int 2)))) sNil))))
  sSkip)))
noncomputable def v_L_part (E : Sem) : SS := (sSeq (sPut (sVar 2) (sCst (.str "left")) (sOp2 oSub (sOp2 oDGet (sVar 2) (sCst (.str "left"))) (sCst (.int 1))))
  (sSeq (sPar 3 4 (sCons (sCall 2 E.L_draw [] (sCons (sVar 0) (sCons (sCst (.int 10)) sNil))) (sCons (sCall 2 E.L_pick [] (sCons (sVar 0) (sCons (sOp2 oDGet (sVar 2) (sCst (.str "names"))) sNil))) sNil)))
  (sSeq (sIfS (tOrS (sT (sOp2 oLt (sVar 1) (sCst (.int 2)))) (tOrS (sT (sOp2 oLt (sOp2 oDGet (sVar 2) (sCst (.str "left"))) (sCst (.int 1)))) (sT (sOp2 oLt (sVar 3) (sCst (.int 3))))))
  (sSeq (sRet (sCall 2 E.L_last [] (sCons (sVar 0) (sCons (sVar 2) sNil))))
  sSkip)
  sSkip)
  (sSeq (sIfS (sT (sOp2 oLt (sVar 3) (sCst (.int 6))))
  (sSeq (sSet 5 (sCall 3 E.L_told [] (sCons (sVar 0) (sCons (sOp2 oSub (sVar 1) (sCst (.int 1))) (sCons (sVar 2) sNil)))))
  (sSeq (sRet (sTup (sCons (sCst (.str "if")) (sCons (sVar 4) (sCons (sVar 5) (sCons (sCall 3 E.L_told [] (sCons (sVar 0) (sCons (sOp2 oSub (sVar 1) (sCst (.int 1))) (sCons (sVar 2) sNil)))) sNil))))))
  sSkip))
  sSkip)
  (sSeq (sSet 6 (sCall 3 E.L_told [] (sCons (sVar 0) (sCons (sOp2 oSub (sVar 1) (sCst (.int 1))) (sCons (sVar 2) sNil)))))
  (sSeq (sIfS (sT (sOp2 oLt (sVar 3) (sCst (.int 9))))
  (sSeq (sRet (sTup (sCons (sCst (.str "while")) (sCons (sVar 4) (sCons (sOp2 oGt (sCall 2 E.L_draw [] (sCons (sVar 0) (sCons (sCst (.int 3)) sNil))) (sCst (.int 0))) (sCons (sVar 6) sNil))))))
  sSkip)
  sSkip)
  (sSeq (sRet (sTup (sCons (sCst (.str "forever")) (sCons (sIf (sT (sOp2 oNe (sVar 6) (sTup (sCons (sCst (.str "row")) (sCons (sTup sNil) sNil))))) (sVar 6) (sCall 2 E.L_last [] (sCons (sVar 0) (sCons (sVar 2) sNil)))) sNil))))
  sSkip)))))))
noncomputable def v_L_told (E : Sem) : SS := (sSeq (sSet 3 (sCall 2 E.L_pick [] (sCons (sVar 0) (sCons (sLst (sCons (sCst (.int 0)) (sCons (sCst (.int 1)) (sCons (sCst (.int 1)) (sCons (sCst (.int 2)) (sCons (sCst (.int 2)) (sCons (sCst (.int 3)) (sCons (sCst (.int 4)) sNil)))))))) sNil))))
  (sSeq (sSet 4 (sLc (sRng1 (sCons (sVar 3) sNil)) (gNm 5) sYes (sCall 3 E.L_part [] (sCons (sVar 0) (sCons (sVar 1) (sCons (sVar 2) sNil)))) [5]))
  (sSeq (sRet (sIf (sT (sOp2 oEq (sB1 oLen (sVar 4)) (sCst (.int 1)))) (sOp2 oIdx (sVar 4) (sCst (.int 0))) (sTup (sCons (sCst (.str "row")) (sCons (sB1 oTupOf (sVar 4)) sNil)))))
  sSkip)))
noncomputable def v_L_insides (E : Sem) : SS := (sSeq (sSet 1 (sOp2 oIdx (sVar 0) (sCst (.int 0))))
  (sSeq (sIfS (sT (sOp2 oEq (sVar 1) (sCst (.str "row"))))
  (sSeq (sRet (sB1 oLstOf (sOp2 oIdx (sVar 0) (sCst (.int 1)))))
  sSkip)
  sSkip)
  (sSeq (sRet (sB1 oLstOf (sSl (sVar 0) (sPart (sGet2 (sDict [((sCst (.str "if")), (sCst (.int 2))), ((sCst (.str "while")), (sCst (.int 3))), ((sCst (.str "forever")), (sCst (.int 1)))]) (sVar 1) (sB1 oLen (sVar 0)))) sNoPart)))
  sSkip)))
noncomputable def v_L_many (E : Sem) : SS := (sSeq (sRet (sOp2 oAdd (sCst (.int 1)) (sB1 oSum (sLc (sSeqI (sCall 1 E.L_insides [] (sCons (sVar 0) sNil))) (gNm 1) sYes (sCall 1 E.L_many [] (sCons (sVar 1) sNil)) [1]))))
  sSkip)
noncomputable def v_L_joined (E : Sem) : SS := (sSeq (sSet 1 (sLst sNil))
  (sSeq (sFor (sSeqI (sVar 0)) (gNm 2)
  (sSeq (sSet 1 (sOp2 oAdd (sVar 1) (sIf (sT (sOp2 oEq (sOp2 oIdx (sVar 2) (sCst (.int 0))) (sCst (.str "row")))) (sB1 oLstOf (sOp2 oIdx (sVar 2) (sCst (.int 1)))) (sLst (sCons (sVar 2) sNil)))))
  sSkip))
  (sSeq (sRet (sIf (sT (sOp2 oEq (sB1 oLen (sVar 1)) (sCst (.int 1)))) (sOp2 oIdx (sVar 1) (sCst (.int 0))) (sTup (sCons (sCst (.str "row")) (sCons (sB1 oTupOf (sVar 1)) sNil)))))
  sSkip)))
noncomputable def v_L_built (E : Sem) : SS := (sSeq (sSet 1 (sOp2 oIdx (sVar 0) (sCst (.int 0))))
  (sSeq (sIfS (sT (sOp2 oEq (sVar 1) (sCst (.str "do"))))
  (sSeq (sRet (sMake 2 E.i_Do [] (sCons (sOp2 oIdx (sVar 0) (sCst (.int 1))) sNil)))
  sSkip)
  sSkip)
  (sSeq (sIfS (sT (sOp2 oEq (sVar 1) (sCst (.str "return"))))
  (sSeq (sRet (sMake 2 E.i_Return [] (sCons (sOp2 oIdx (sVar 0) (sCst (.int 1))) sNil)))
  sSkip)
  sSkip)
  (sSeq (sIfS (sT (sOp2 oEq (sVar 1) (sCst (.str "go"))))
  (sSeq (sRet (sMake 2 E.i_Go [] (sCons (sOp2 oIdx (sVar 0) (sCst (.int 1))) sNil)))
  sSkip)
  sSkip)
  (sSeq (sIfS (sT (sOp2 oEq (sVar 1) (sCst (.str "end"))))
  (sSeq (sRet (sMake 1 E.i_End [] sNil))
  sSkip)
  sSkip)
  (sSeq (sIfS (sT (sOp2 oEq (sVar 1) (sCst (.str "if"))))
  (sSeq (sRet (sMake 4 E.i_If [] (sCons (sOp2 oIdx (sVar 0) (sCst (.int 1))) (sCons (sCall 1 E.L_built [] (sCons (sOp2 oIdx (sVar 0) (sCst (.int 2))) sNil)) (sCons (sCall 1 E.L_built [] (sCons (sOp2 oIdx (sVar 0) (sCst (.int 3))) sNil)) sNil)))))
  sSkip)
  sSkip)
  (sSeq (sIfS (sT (sOp2 oEq (sVar 1) (sCst (.str "while"))))
  (sSeq (sRet (sMake 4 E.i_While [] (sCons (sOp2 oIdx (sVar 0) (sCst (.int 1))) (sCons (sCall 1 E.L_built [] (sCons (sOp2 oIdx (sVar 0) (sCst (.int 3))) sNil)) (sCons (sOp2 oIdx (sVar 0) (sCst (.int 2))) sNil)))))
  sSkip)
  sSkip)
  (sSeq (sIfS (sT (sOp2 oEq (sVar 1) (sCst (.str "forever"))))
  (sSeq (sRet (sMake 2 E.i_Forever [] (sCons (sCall 1 E.L_built [] (sCons (sOp2 oIdx (sVar 0) (sCst (.int 1))) sNil)) sNil)))
  sSkip)
  sSkip)
  (sSeq (sRet (sMake 2 E.i_Row [] (sCons (sB1 oTupOf (sLc (sSeqI (sOp2 oIdx (sVar 0) (sCst (.int 1)))) (gNm 2) sYes (sCall 1 E.L_built [] (sCons (sVar 2) sNil)) [2])) sNil)))
  sSkip)))))))))
noncomputable def v_L_loosened (E : Sem) : SS := (sSeq (sSet 2 (sOp2 oIdx (sVar 1) (sCst (.int 0))))
  (sSeq (sIfS (sT (sOp2 oEq (sVar 2) (sCst (.str "if"))))
  (sSeq (sSet 1 (sOp2 oAdd (sSl (sVar 1) sNoPart (sPart (sCst (.int 2)))) (sTup (sCons (sCall 2 E.L_loosened [] (sCons (sVar 0) (sCons (sOp2 oIdx (sVar 1) (sCst (.int 2))) sNil))) (sCons (sCall 2 E.L_loosened [] (sCons (sVar 0) (sCons (sOp2 oIdx (sVar 1) (sCst (.int 3))) sNil))) sNil)))))
  sSkip)
  (sSeq (sIfS (sT (sOp2 oEq (sVar 2) (sCst (.str "while"))))
  (sSeq (sSet 1 (sOp2 oAdd (sSl (sVar 1) sNoPart (sPart (sCst (.int 3)))) (sTup (sCons (sCall 2 E.L_loosened [] (sCons (sVar 0) (sCons (sOp2 oIdx (sVar 1) (sCst (.int 3))) sNil))) sNil))))
  sSkip)
  (sSeq (sIfS (sT (sOp2 oEq (sVar 2) (sCst (.str "forever"))))
  (sSeq (sSet 1 (sOp2 oAdd (sSl (sVar 1) sNoPart (sPart (sCst (.int 1)))) (sTup (sCons (sCall 2 E.L_loosened [] (sCons (sVar 0) (sCons (sOp2 oIdx (sVar 1) (sCst (.int 1))) sNil))) sNil))))
  sSkip)
  (sSeq (sIfS (sT (sOp2 oEq (sVar 2) (sCst (.str "row"))))
  (sSeq (sSet 3 (sB1 oTupOf (sLc (sSeqI (sOp2 oIdx (sVar 1) (sCst (.int 1)))) (gNm 6) sYes (sCall 2 E.L_loosened [] (sCons (sVar 0) (sCons (sVar 6) sNil))) [6])))
  (sSeq (sSet 4 (sCall 2 E.L_draw [] (sCons (sVar 0) (sCons (sOp2 oAdd (sB1 oLen (sVar 3)) (sCst (.int 1))) sNil))))
  (sSeq (sSet 5 (sCall 2 E.L_draw [] (sCons (sVar 0) (sCons (sCst (.int 4)) sNil))))
  (sSeq (sIfS (sT (sOp2 oEq (sVar 5) (sCst (.int 0))))
  (sSeq (sSet 3 (sOp2 oAdd (sTup (sCons (sTup (sCons (sCst (.str "row")) (sCons (sSl (sVar 3) sNoPart (sPart (sVar 4))) sNil))) sNil)) (sSl (sVar 3) (sPart (sVar 4)) sNoPart)))
  sSkip)
  (sSeq (sIfS (sT (sOp2 oEq (sVar 5) (sCst (.int 1))))
  (sSeq (sSet 3 (sOp2 oAdd (sOp2 oAdd (sSl (sVar 3) sNoPart (sPart (sVar 4))) (sTup (sCons (sTup (sCons (sCst (.str "row")) (sCons (sTup sNil) sNil))) sNil))) (sSl (sVar 3) (sPart (sVar 4)) sNoPart)))
  sSkip)
  (sSeq (sIfS (sT (sOp2 oEq (sVar 5) (sCst (.int 2))))
  (sSeq (sSet 3 (sOp2 oAdd (sSl (sVar 3) sNoPart (sPart (sVar 4))) (sTup (sCons (sTup (sCons (sCst (.str "row")) (sCons (sSl (sVar 3) (sPart (sVar 4)) sNoPart) sNil))) sNil))))
  sSkip)
  sSkip)
  sSkip))
  sSkip))
  (sSeq (sSet 1 (sTup (sCons (sCst (.str "row")) (sCons (sVar 3) sNil))))
  sSkip)))))
  sSkip)
  sSkip))
  sSkip))
  sSkip))
  (sSeq (sRet (sIf (sT (sOp2 oEq (sCall 2 E.L_draw [] (sCons (sVar 0) (sCons (sCst (.int 5)) sNil))) (sCst (.int 0)))) (sTup (sCons (sCst (.str "row")) (sCons (sTup (sCons (sVar 1) sNil)) sNil))) (sVar 1)))
  sSkip)))
noncomputable def v_L_other (E : Sem) : SS := (sSeq (sSet 2 (sOp2 oIdx (sVar 1) (sCst (.int 0))))
  (sSeq (sSet 3 (sCall 1 E.L_insides [] (sCons (sVar 1) sNil)))
  (sSeq (sIfS (tAndS (sT (sOp2 oNe (sVar 3) (sLst sNil))) (sT (sOp2 oGt (sCall 2 E.L_draw [] (sCons (sVar 0) (sCons (sCst (.int 3)) sNil))) (sCst (.int 0)))))
  (sSeq (sSet 4 (sCall 2 E.L_draw [] (sCons (sVar 0) (sCons (sB1 oLen (sVar 3)) sNil))))
  (sSeq (sSet 5 (sOp2 oAdd (sOp2 oAdd (sSl (sVar 3) sNoPart (sPart (sVar 4))) (sLst (sCons (sCall 2 E.L_other [] (sCons (sVar 0) (sCons (sOp2 oIdx (sVar 3) (sVar 4)) sNil))) sNil))) (sSl (sVar 3) (sPart (sOp2 oAdd (sVar 4) (sCst (.int 1)))) sNoPart)))
  (sSeq (sIfS (sT (sOp2 oEq (sVar 2) (sCst (.str "row"))))
  (sSeq (sRet (sCall 1 E.L_joined [] (sCons (sVar 5) sNil)))
  sSkip)
  sSkip)
  (sSeq (sIfS (tOrS (sT (sOp2 oNe (sVar 2) (sCst (.str "forever")))) (sT (sOp2 oNe (sOp2 oIdx (sVar 5) (sCst (.int 0))) (sTup (sCons (sCst (.str "row")) (sCons (sTup sNil) sNil))))))
  (sSeq (sRet (sOp2 oAdd (sSl (sVar 1) sNoPart (sPart (sOp2 oSub (sB1 oLen (sVar 1)) (sB1 oLen (sVar 3))))) (sB1 oTupOf (sVar 5))))
  sSkip)
  sSkip)
  sSkip))))
  sSkip)
  (sSeq (sSet 6 (sCall 1 E.L_name [] (sCons (sVar 0) sNil)))
  (sSeq (sIfS (sT (sOp2 oIn (sVar 2) (sTup (sCons (sCst (.str "do")) (sCons (sCst (.str "return")) (sCons (sCst (.str "go")) sNil))))))
  (sSeq (sRet (sTup (sCons (sCall 2 E.L_pick [] (sCons (sVar 0) (sCons (sLst (sCons (sCst (.str "do")) (sCons (sCst (.str "return")) (sCons (sCst (.str "go")) sNil)))) sNil))) (sCons (sVar 6) sNil))))
  sSkip)
  sSkip)
  (sSeq (sIfS (sT (sOp2 oEq (sVar 2) (sCst (.str "while"))))
  (sSeq (sRet (sCall 2 E.L_pick [] (sCons (sVar 0) (sCons (sLst (sCons (sOp2 oAdd (sSl (sVar 1) sNoPart (sPart (sCst (.int 2)))) (sTup (sCons (sNot (sOp2 oIdx (sVar 1) (sCst (.int 2)))) (sCons (sOp2 oIdx (sVar 1) (sCst (.int 3))) sNil)))) (sCons (sOp2 oAdd (sTup (sCons (sVar 2) (sCons (sVar 6) sNil))) (sSl (sVar 1) (sPart (sCst (.int 2))) sNoPart)) (sCons (sTup (sCons (sCst (.str "forever")) (sCons (sTup (sCons (sCst (.str "end")) sNil)) sNil))) sNil)))) sNil))))
  sSkip)
  sSkip)
  (sSeq (sIfS (sT (sOp2 oEq (sVar 2) (sCst (.str "if"))))
  (sSeq (sRet (sCall 2 E.L_pick [] (sCons (sVar 0) (sCons (sLst (sCons (sTup (sCons (sVar 2) (sCons (sOp2 oIdx (sVar 1) (sCst (.int 1))) (sCons (sOp2 oIdx (sVar 1) (sCst (.int 3))) (sCons (sOp2 oIdx (sVar 1) (sCst (.int 2))) sNil))))) (sCons (sOp2 oAdd (sTup (sCons (sVar 2) (sCons (sVar 6) sNil))) (sSl (sVar 1) (sPart (sCst (.int 2))) sNoPart)) (sCons (sOp2 oAdd (sSl (sVar 1) sNoPart (sPart (sCst (.int 3)))) (sTup (sCons (sTup (sCons (sCst (.str "end")) sNil)) sNil))) sNil)))) sNil))))
  sSkip)
  sSkip)
  (sSeq (sIfS (sT (sOp2 oEq (sVar 2) (sCst (.str "row"))))
  (sSeq (sRet (sCall 1 E.L_joined [] (sCons (sOp2 oAdd (sOp1 oRev (sVar 3)) (sLst (sCons (sCall 2 E.L_pick [] (sCons (sVar 0) (sCons (sLst (sCons (sTup (sCons (sCst (.str "end")) sNil)) (sCons (sTup (sCons (sCst (.str "do")) (sCons (sVar 6) sNil))) (sCons (sTup (sCons (sCst (.str "row")) (sCons (sTup sNil) sNil))) sNil)))) sNil))) sNil))) sNil)))
  sSkip)
  sSkip)
  (sSeq (sRet (sTup (sCons (sCst (.str "do")) (sCons (sVar 6) sNil))))
  sSkip)))))))))
noncomputable def v_L_class_right (E : Sem) : SS := (sSeq (sSet 2 (sLst (sCons (sCst (.str "do")) (sCons (sCst (.str "return")) (sCons (sCst (.str "go")) (sCons (sCst (.str "end")) (sCons (sCst (.str "if")) (sCons (sCst (.str "while")) (sCons (sCst (.str "forever")) (sCons (sCst (.str "row")) sNil))))))))))
  (sSeq (sSet 3 (sLst (sCons (sIsi (isiP pb_Do pc_Do) (sVar 0)) (sCons (sIsi (isiP pb_Return pc_Return) (sVar 0)) (sCons (sIsi (isiP pb_Go pc_Go) (sVar 0)) (sCons (sIsi (isiP pb_End pc_End) (sVar 0)) sNil))))))
  (sSeq (sSet 3 (sOp2 oAdd (sVar 3) (sLst (sCons (sIsi (isiP pb_If pc_If) (sVar 0)) (sCons (sIsi (isiP pb_While pc_While) (sVar 0)) (sCons (sIsi (isiP pb_Forever pc_Forever) (sVar 0)) sNil))))))
  (sSeq (sIfS (sT (sOp2 oNe (sOp2 oAdd (sVar 3) (sLst (sCons (sIsi (isiP pb_Row pc_Row) (sVar 0)) sNil))) (sLc (sSeqI (sVar 2)) (gNm 6) sYes (sOp2 oEq (sVar 6) (sOp2 oIdx (sVar 1) (sCst (.int 0)))) [6])))
  (sSeq (sRet (sCst (.bl false)))
  sSkip)
  sSkip)
  (sSeq (sPar 4 5 (sCons (sOp2 oIn (sOp2 oIdx (sVar 1) (sCst (.int 0))) (sTup (sCons (sCst (.str "if")) (sCons (sCst (.str "while")) sNil)))) (sCons (sOp2 oIn (sOp2 oIdx (sVar 1) (sCst (.int 0))) (sTup (sCons (sCst (.str "while")) (sCons (sCst (.str "forever")) sNil)))) sNil)))
  (sSeq (sRet (sOp2 oEq (sLst (sCons (sIsi (isiP pb_Program pc_Program) (sVar 0)) (sCons (sIsi (isiP pb_Asking pc_Asking) (sVar 0)) (sCons (sIsi (isiP pb_Loop pc_Loop) (sVar 0)) sNil)))) (sLst (sCons (sCst (.bl true)) (sCons (sVar 4) (sCons (sVar 5) sNil))))))
  sSkip))))))
noncomputable def v_L_is (E : Sem) : SS := (sSeq (sFor (sRng1 (sCons (sCst (.int 2)) sNil)) (gNm 2)
  (sSeq (sIfS (tOrS (sT (sOp2 oNe (sB1 oRepr (sProp E.told okP (sVar 0))) (sB1 oRepr (sVar 1)))) (sT (sOp2 oNe (sLenO E.plen okP (sCons (sVar 0) sNil)) (sCall 1 E.L_many [] (sCons (sVar 1) sNil)))))
  (sSeq (sRet (sCst (.bl false)))
  sSkip)
  sSkip)
  sSkip))
  (sSeq (sRet (sIsi (isiP pb_Program pc_Program) (sVar 0)))
  sSkip))
noncomputable def v_L_strange (E : Sem) : SS := (sSeq (sSet 2 (sLst (sCons (sCst .non) (sCons (sVar 1) (sCons (sB1 oRepr (sVar 1)) (sCons (sB1 oLstOf (sVar 1)) (sCons sDict0 (sCons (sCst (.int 0)) (sCons (sOp2 oIdx (sVar 1) (sCst (.int 0))) sNil)))))))))
  (sSeq (sRet (sOp2 oEq (sLc (sSeqI (sVar 2)) (gNm 3) (tOrS (sT (sEqO E.peq okP okT (sVar 0) (sVar 3))) (tNotS (sT (sNeO E.peq okP okT (sVar 0) (sVar 3))))) (sCst (.int 1)) [3]) (sLst sNil)))
  sSkip))
noncomputable def v_law (E : Sem) : SS := (sSeq (sSet 1 (sCall 1 E.L_begin [] (sCons (sVar 0) sNil)))
  (sSeq (sFor (sRng1 (sCons (sCall 3 E.L_rounds [] (sCons (sVar 0) (sCons (sCst (.int 3)) (sCons (sCst (.int 7)) sNil)))) sNil)) (gNm 2)
  (sSeq (sSet 3 (sCall 3 E.L_told [] (sCons (sVar 1) (sCons (sOp2 oAdd (sCst (.int 1)) (sCall 2 E.L_draw [] (sCons (sVar 1) (sCons (sCst (.int 6)) sNil)))) (sCons (sCall 3 E.L_kit [] (sCons (sVar 1) (sCons (sCst (.int 40)) (sCons (sLst (sCons (sCst (.str "m")) sNil)) sNil)))) sNil)))))
  (sSeq (sSet 4 (sCall 2 E.L_loosened [] (sCons (sVar 1) (sCons (sVar 3) sNil))))
  (sSeq (sSet 5 (sB1 oRepr (sVar 4)))
  (sSeq (sSet 6 (sLst (sCons (sCall 1 E.L_built [] (sCons (sVar 3) sNil)) (sCons (sCall 1 E.s_Program_of [] (sCons (sVar 3) sNil)) (sCons (sCall 1 E.L_built [] (sCons (sVar 4) sNil)) (sCons (sCall 1 E.s_Program_of [] (sCons (sVar 4) sNil)) sNil))))))
  (sSeq (sIfS (tOrS (sT (sOp2 oNe (sLc (sSeqI (sVar 6)) (gNm 10) (tNotS (sT (sCall 2 E.L_is [] (sCons (sVar 10) (sCons (sVar 3) sNil))))) (sCst (.int 1)) [10]) (sLst sNil))) (sT (sOp2 oNe (sB1 oRepr (sVar 4)) (sVar 5))))
  (sSeq (sRet (sCst (.bl false)))
  sSkip)
  sSkip)
  (sSeq (sIfS (tOrS (tNotS (sT (sCall 2 E.L_class_right [] (sCons (sOp2 oIdx (sVar 6) (sCst (.int 0))) (sCons (sVar 3) sNil))))) (tNotS (sT (sCall 2 E.L_class_right [] (sCons (sOp2 oIdx (sVar 6) (sCst (.int 1))) (sCons (sVar 3) sNil))))))
  (sSeq (sRet (sCst (.bl false)))
  sSkip)
  sSkip)
  (sSeq (sIfS (tAndS (sT (sOp2 oEq (sOp2 oIdx (sVar 3) (sCst (.int 0))) (sCst (.str "while")))) (tAndS (sT (sOp2 oIdx (sVar 3) (sCst (.int 2)))) (sT (sNeO E.peq okP okT (sMake 4 E.i_While [(.bl true, .sh)] (sCons (sOp2 oIdx (sVar 3) (sCst (.int 1))) (sCons (sCall 1 E.L_built [] (sCons (sOp2 oIdx (sVar 3) (sCst (.int 3))) sNil)) sNil))) (sOp2 oIdx (sVar 6) (sCst (.int 0)))))))
  (sSeq (sRet (sCst (.bl false)))
  sSkip)
  sSkip)
  (sSeq (sIfS (tOrS (sT (sOp2 oNe (sLc (sSeqI (sVar 6)) (gNm 10) (tOrS (tNotS (sT (sEqO E.peq okP okT (sVar 10) (sOp2 oIdx (sVar 6) (sCst (.int 0)))))) (sT (sNeO E.peq okP okT (sVar 10) (sOp2 oIdx (sVar 6) (sOp1 oNeg (sCst (.int 1))))))) (sCst (.int 1)) [10]) (sLst sNil))) (tNotS (sT (sCall 2 E.L_strange [] (sCons (sOp2 oIdx (sVar 6) (sCst (.int 0))) (sCons (sVar 3) sNil))))))
  (sSeq (sRet (sCst (.bl false)))
  sSkip)
  sSkip)
  (sSeq (sSet 7 (sCall 2 E.L_other [] (sCons (sVar 1) (sCons (sVar 3) sNil))))
  (sSeq (sSet 8 (sCall 1 E.s_Program_of [] (sCons (sVar 7) sNil)))
  (sSeq (sSet 9 (sLst (sCons (sEqO E.peq okP okT (sVar 8) (sOp2 oIdx (sVar 6) (sCst (.int 2)))) (sCons (sNot (sNeO E.peq okP okT (sOp2 oIdx (sVar 6) (sCst (.int 3))) (sVar 8))) (sCons (sEqO E.peq okP okT (sOp2 oIdx (sVar 6) (sCst (.int 1))) (sVar 8)) sNil)))))
  (sSeq (sIfS (tOrS (tNotS (sT (sCall 2 E.L_is [] (sCons (sVar 8) (sCons (sVar 7) sNil))))) (sT (sOp2 oNe (sVar 9) (sOp2 oMul (sLst (sCons (sOp2 oEq (sVar 7) (sVar 3)) sNil)) (sCst (.int 3))))))
  (sSeq (sRet (sCst (.bl false)))
  sSkip)
  sSkip)
  sSkip)))))))))))))
  (sSeq (sRet (sCst (.bl true)))
  sSkip)))
noncomputable def step (E : Sem) : Sem where
  told := bodyF 1 (v_told E)
  s_Program_of := bodyF 1 (v_s_Program_of E)
  plen := bodyF 1 (v_plen E)
  peq := bodyF 2 (v_peq E)
  padd := bodyF 2 (v_padd E)
  pmul := bodyF 2 (v_pmul E)
  i_Do := initF 2 1 (v_i_Do E)
  i_Return := initF 2 2 (v_i_Return E)
  i_Go := initF 2 3 (v_i_Go E)
  i_End := initF 1 4 (v_i_End E)
  i_If := initF 4 5 (v_i_If E)
  i_While := initF 4 6 (v_i_While E)
  i_Forever := initF 2 7 (v_i_Forever E)
  i_Row := initF 10 8 (v_i_Row E)
  is_number := bodyF 1 (v_is_number E)
  is_name := bodyF 2 (v_is_name E)
  sized := bodyF 3 (v_sized E)
  need_program := bodyF 1 (v_need_program E)
  need_name := bodyF 1 (v_need_name E)
  parts_of := bodyF 1 (v_parts_of E)
  made_end := bodyF 1 (v_made_end E)
  made := bodyF 4 (v_made E)
  L_begin := bodyF 3 (v_L_begin E)
  L_draw := bodyF 6 (v_L_draw E)
  L_pick := bodyF 2 (v_L_pick E)
  L_rounds := bodyF 3 (v_L_rounds E)
  L_kept := bodyF 0 (v_L_kept E)
  L_name := bodyF 6 (v_L_name E)
  L_kit := bodyF 5 (v_L_kit E)
  L_last := bodyF 4 (v_L_last E)
  L_part := bodyF 7 (v_L_part E)
  L_told := bodyF 6 (v_L_told E)
  L_insides := bodyF 2 (v_L_insides E)
  L_many := bodyF 2 (v_L_many E)
  L_joined := bodyF 3 (v_L_joined E)
  L_built := bodyF 3 (v_L_built E)
  L_loosened := bodyF 7 (v_L_loosened E)
  L_other := bodyF 7 (v_L_other E)
  L_class_right := bodyF 7 (v_L_class_right E)
  L_is := bodyF 3 (v_L_is E)
  L_strange := bodyF 4 (v_L_strange E)
  law := bodyF 11 (v_law E)
noncomputable def sem : Nat → Sem
  | 0 => ⟨fun _ _ => .bad, fun _ _ => .bad, fun _ _ => .bad, fun _ _ => .bad, fun _ _ => .bad, fun _ _ => .bad, fun _ _ => .bad, fun _ _ => .bad, fun _ _ => .bad, fun _ _ => .bad, fun _ _ => .bad, fun _ _ => .bad, fun _ _ => .bad, fun _ _ => .bad, fun _ _ => .bad, fun _ _ => .bad, fun _ _ => .bad, fun _ _ => .bad, fun _ _ => .bad, fun _ _ => .bad, fun _ _ => .bad, fun _ _ => .bad, fun _ _ => .bad, fun _ _ => .bad, fun _ _ => .bad, fun _ _ => .bad, fun _ _ => .bad, fun _ _ => .bad, fun _ _ => .bad, fun _ _ => .bad, fun _ _ => .bad, fun _ _ => .bad, fun _ _ => .bad, fun _ _ => .bad, fun _ _ => .bad, fun _ _ => .bad, fun _ _ => .bad, fun _ _ => .bad, fun _ _ => .bad, fun _ _ => .bad, fun _ _ => .bad, fun _ _ => .bad⟩
  | n + 1 => step (sem n)
end K25

set_option maxRecDepth 100000
set_option maxHeartbeats 4000000
namespace K25
open PySem L2 DL
def top (i : Nat) : Stmt := PySem.Challenge.pw_fewmodes_k25_programs_made.main.body.getD i (.Pass ⟨0, 0, 0, 0⟩)
abbrev s_told : Stmt := inClass (top 14) 0
abbrev N_told : List Str := ["self"]
abbrev p_told : List Str := ["self"]
theorem sc_told : FnScope N_told p_told (defScope s_told) := ⟨rfl, rfl, rfl, by decide +kernel, rfl, by decide +kernel, by decide +kernel⟩
abbrev s_s_Program_of : Stmt := inClass (top 14) 1
abbrev N_s_Program_of : List Str := ["told"]
abbrev p_s_Program_of : List Str := ["told"]
theorem sc_s_Program_of : FnScope N_s_Program_of p_s_Program_of (defScope s_s_Program_of) := ⟨rfl, rfl, rfl, by decide +kernel, rfl, by decide +kernel, by decide +kernel⟩
abbrev s_plen : Stmt := inClass (top 14) 2
abbrev N_plen : List Str := ["self"]
abbrev p_plen : List Str := ["self"]
theorem sc_plen : FnScope N_plen p_plen (defScope s_plen) := ⟨rfl, rfl, rfl, by decide +kernel, rfl, by decide +kernel, by decide +kernel⟩
abbrev s_peq : Stmt := inClass (top 14) 3
abbrev N_peq : List Str := ["self", "other"]
abbrev p_peq : List Str := ["self", "other"]
theorem sc_peq : FnScope N_peq p_peq (defScope s_peq) := ⟨rfl, rfl, rfl, by decide +kernel, rfl, by decide +kernel, by decide +kernel⟩
abbrev s_padd : Stmt := inClass (top 14) 4
abbrev N_padd : List Str := ["self", "other"]
abbrev p_padd : List Str := ["self", "other"]
theorem sc_padd : FnScope N_padd p_padd (defScope s_padd) := ⟨rfl, rfl, rfl, by decide +kernel, rfl, by decide +kernel, by decide +kernel⟩
abbrev s_pmul : Stmt := inClass (top 14) 5
abbrev N_pmul : List Str := ["self", "many"]
abbrev p_pmul : List Str := ["self", "many"]
theorem sc_pmul : FnScope N_pmul p_pmul (defScope s_pmul) := ⟨rfl, rfl, rfl, by decide +kernel, rfl, by decide +kernel, by decide +kernel⟩
abbrev s_i_Do : Stmt := inClass (top 18) 0
abbrev N_i_Do : List Str := ["self", "name"]
abbrev p_i_Do : List Str := ["self", "name"]
theorem sc_i_Do : FnScope N_i_Do p_i_Do (defScope s_i_Do) := ⟨rfl, rfl, rfl, by decide +kernel, rfl, by decide +kernel, by decide +kernel⟩
abbrev s_i_Return : Stmt := inClass (top 19) 0
abbrev N_i_Return : List Str := ["self", "name"]
abbrev p_i_Return : List Str := ["self", "name"]
theorem sc_i_Return : FnScope N_i_Return p_i_Return (defScope s_i_Return) := ⟨rfl, rfl, rfl, by decide +kernel, rfl, by decide +kernel, by decide +kernel⟩
abbrev s_i_Go : Stmt := inClass (top 20) 0
abbrev N_i_Go : List Str := ["self", "name"]
abbrev p_i_Go : List Str := ["self", "name"]
theorem sc_i_Go : FnScope N_i_Go p_i_Go (defScope s_i_Go) := ⟨rfl, rfl, rfl, by decide +kernel, rfl, by decide +kernel, by decide +kernel⟩
abbrev s_i_End : Stmt := inClass (top 21) 0
abbrev N_i_End : List Str := ["self"]
abbrev p_i_End : List Str := ["self"]
theorem sc_i_End : FnScope N_i_End p_i_End (defScope s_i_End) := ⟨rfl, rfl, rfl, by decide +kernel, rfl, by decide +kernel, by decide +kernel⟩
abbrev s_i_If : Stmt := inClass (top 24) 0
abbrev N_i_If : List Str := ["self", "name", "yes", "no"]
abbrev p_i_If : List Str := ["self", "name", "yes", "no"]
theorem sc_i_If : FnScope N_i_If p_i_If (defScope s_i_If) := ⟨rfl, rfl, rfl, by decide +kernel, rfl, by decide +kernel, by decide +kernel⟩
abbrev s_i_While : Stmt := inClass (top 25) 0
abbrev N_i_While : List Str := ["self", "name", "body", "wanted"]
abbrev p_i_While : List Str := ["self", "name", "body", "wanted"]
theorem sc_i_While : FnScope N_i_While p_i_While (defScope s_i_While) := ⟨rfl, rfl, rfl, by decide +kernel, rfl, by decide +kernel, by decide +kernel⟩
abbrev s_i_Forever : Stmt := inClass (top 26) 0
abbrev N_i_Forever : List Str := ["self", "body"]
abbrev p_i_Forever : List Str := ["self", "body"]
theorem sc_i_Forever : FnScope N_i_Forever p_i_Forever (defScope s_i_Forever) := ⟨rfl, rfl, rfl, by decide +kernel, rfl, by decide +kernel, by decide +kernel⟩
abbrev s_i_Row : Stmt := inClass (top 27) 0
abbrev N_i_Row : List Str := ["self", "parts", "found", "many", "deep", "part", "told", "units", "own_deep", "own"]
abbrev p_i_Row : List Str := ["self", "parts"]
theorem sc_i_Row : FnScope N_i_Row p_i_Row (defScope s_i_Row) := ⟨rfl, rfl, rfl, by decide +kernel, rfl, by decide +kernel, by decide +kernel⟩
abbrev s_is_number : Stmt := top 7
abbrev N_is_number : List Str := ["thing"]
abbrev p_is_number : List Str := ["thing"]
theorem sc_is_number : FnScope N_is_number p_is_number (defScope s_is_number) := ⟨rfl, rfl, rfl, by decide +kernel, rfl, by decide +kernel, by decide +kernel⟩
abbrev s_is_name : Stmt := top 8
abbrev N_is_name : List Str := ["thing", "sign"]
abbrev p_is_name : List Str := ["thing"]
theorem sc_is_name : FnScope N_is_name p_is_name (defScope s_is_name) := ⟨rfl, rfl, rfl, by decide +kernel, rfl, by decide +kernel, by decide +kernel⟩
abbrev s_sized : Stmt := top 15
abbrev N_sized : List Str := ["told", "many", "deep"]
abbrev p_sized : List Str := ["told", "many", "deep"]
theorem sc_sized : FnScope N_sized p_sized (defScope s_sized) := ⟨rfl, rfl, rfl, by decide +kernel, rfl, by decide +kernel, by decide +kernel⟩
abbrev s_need_program : Stmt := top 16
abbrev N_need_program : List Str := ["thing"]
abbrev p_need_program : List Str := ["thing"]
theorem sc_need_program : FnScope N_need_program p_need_program (defScope s_need_program) := ⟨rfl, rfl, rfl, by decide +kernel, rfl, by decide +kernel, by decide +kernel⟩
abbrev s_need_name : Stmt := top 17
abbrev N_need_name : List Str := ["thing"]
abbrev p_need_name : List Str := ["thing"]
theorem sc_need_name : FnScope N_need_name p_need_name (defScope s_need_name) := ⟨rfl, rfl, rfl, by decide +kernel, rfl, by decide +kernel, by decide +kernel⟩
abbrev s_parts_of : Stmt := top 28
abbrev N_parts_of : List Str := ["told"]
abbrev p_parts_of : List Str := ["told"]
theorem sc_parts_of : FnScope N_parts_of p_parts_of (defScope s_parts_of) := ⟨rfl, rfl, rfl, by decide +kernel, rfl, by decide +kernel, by decide +kernel⟩
abbrev s_made_end : Stmt := top 29
abbrev N_made_end : List Str := ["told"]
abbrev p_made_end : List Str := ["told"]
theorem sc_made_end : FnScope N_made_end p_made_end (defScope s_made_end) := ⟨rfl, rfl, rfl, by decide +kernel, rfl, by decide +kernel, by decide +kernel⟩
abbrev s_made : Stmt := top 30
abbrev N_made : List Str := ["told", "word", "parts", "part"]
abbrev p_made : List Str := ["told"]
theorem sc_made : FnScope N_made p_made (defScope s_made) := ⟨rfl, rfl, rfl, by decide +kernel, rfl, by decide +kernel, by decide +kernel⟩
abbrev s_L_begin : Stmt := top 32
abbrev N_L_begin : List Str := ["_law_script", "_law_cells", "_law_cell"]
abbrev p_L_begin : List Str := ["_law_script"]
theorem sc_L_begin : FnScope N_L_begin p_L_begin (defScope s_L_begin) := ⟨rfl, rfl, rfl, by decide +kernel, rfl, by decide +kernel, by decide +kernel⟩
abbrev s_L_draw : Stmt := top 33
abbrev N_L_draw : List Str := ["_law_state", "_law_size", "_law_found", "_law_turn", "_law_cell", "_law_mixed"]
abbrev p_L_draw : List Str := ["_law_state", "_law_size"]
theorem sc_L_draw : FnScope N_L_draw p_L_draw (defScope s_L_draw) := ⟨rfl, rfl, rfl, by decide +kernel, rfl, by decide +kernel, by decide +kernel⟩
abbrev s_L_pick : Stmt := top 34
abbrev N_L_pick : List Str := ["_law_state", "_law_some"]
abbrev p_L_pick : List Str := ["_law_state", "_law_some"]
theorem sc_L_pick : FnScope N_L_pick p_L_pick (defScope s_L_pick) := ⟨rfl, rfl, rfl, by decide +kernel, rfl, by decide +kernel, by decide +kernel⟩
abbrev s_L_rounds : Stmt := top 35
abbrev N_L_rounds : List Str := ["_law_script", "_law_least", "_law_most"]
abbrev p_L_rounds : List Str := ["_law_script", "_law_least", "_law_most"]
theorem sc_L_rounds : FnScope N_L_rounds p_L_rounds (defScope s_L_rounds) := ⟨rfl, rfl, rfl, by decide +kernel, rfl, by decide +kernel, by decide +kernel⟩
abbrev s_L_kept : Stmt := top 36
abbrev N_L_kept : List Str := []
abbrev p_L_kept : List Str := []
theorem sc_L_kept : FnScope N_L_kept p_L_kept (defScope s_L_kept) := ⟨rfl, rfl, rfl, by decide +kernel, rfl, by decide +kernel, by decide +kernel⟩
abbrev s_L_name : Stmt := top 37
abbrev N_L_name : List Str := ["_law_state", "_law_way", "_law_some", "_law_letters", "_law_word", "_law_k"]
abbrev p_L_name : List Str := ["_law_state"]
theorem sc_L_name : FnScope N_L_name p_L_name (defScope s_L_name) := ⟨rfl, rfl, rfl, by decide +kernel, rfl, by decide +kernel, by decide +kernel⟩
abbrev s_L_kit : Stmt := top 38
abbrev N_L_kit : List Str := ["_law_state", "_law_many_here", "_law_gos", "_law_names", "_law_k"]
abbrev p_L_kit : List Str := ["_law_state", "_law_many_here", "_law_gos"]
theorem sc_L_kit : FnScope N_L_kit p_L_kit (defScope s_L_kit) := ⟨rfl, rfl, rfl, by decide +kernel, rfl, by decide +kernel, by decide +kernel⟩
abbrev s_L_last : Stmt := top 39
abbrev N_L_last : List Str := ["_law_state", "_law_kit_here", "_law_name_here", "_law_gos"]
abbrev p_L_last : List Str := ["_law_state", "_law_kit_here"]
theorem sc_L_last : FnScope N_L_last p_L_last (defScope s_L_last) := ⟨rfl, rfl, rfl, by decide +kernel, rfl, by decide +kernel, by decide +kernel⟩
abbrev s_L_part : Stmt := top 40
abbrev N_L_part : List Str := ["_law_state", "_law_deep", "_law_kit_here", "_law_way", "_law_name_here", "_law_yes", "_law_body"]
abbrev p_L_part : List Str := ["_law_state", "_law_deep", "_law_kit_here"]
theorem sc_L_part : FnScope N_L_part p_L_part (defScope s_L_part) := ⟨rfl, rfl, rfl, by decide +kernel, rfl, by decide +kernel, by decide +kernel⟩
abbrev s_L_told : Stmt := top 41
abbrev N_L_told : List Str := ["_law_state", "_law_deep", "_law_kit_here", "_law_many_here", "_law_parts", "_law_k"]
abbrev p_L_told : List Str := ["_law_state", "_law_deep", "_law_kit_here"]
theorem sc_L_told : FnScope N_L_told p_L_told (defScope s_L_told) := ⟨rfl, rfl, rfl, by decide +kernel, rfl, by decide +kernel, by decide +kernel⟩
abbrev s_L_insides : Stmt := top 42
abbrev N_L_insides : List Str := ["_law_told_here", "_law_word"]
abbrev p_L_insides : List Str := ["_law_told_here"]
theorem sc_L_insides : FnScope N_L_insides p_L_insides (defScope s_L_insides) := ⟨rfl, rfl, rfl, by decide +kernel, rfl, by decide +kernel, by decide +kernel⟩
abbrev s_L_many : Stmt := top 43
abbrev N_L_many : List Str := ["_law_told_here", "_law_part_here"]
abbrev p_L_many : List Str := ["_law_told_here"]
theorem sc_L_many : FnScope N_L_many p_L_many (defScope s_L_many) := ⟨rfl, rfl, rfl, by decide +kernel, rfl, by decide +kernel, by decide +kernel⟩
abbrev s_L_joined : Stmt := top 44
abbrev N_L_joined : List Str := ["_law_parts", "_law_found", "_law_part_here"]
abbrev p_L_joined : List Str := ["_law_parts"]
theorem sc_L_joined : FnScope N_L_joined p_L_joined (defScope s_L_joined) := ⟨rfl, rfl, rfl, by decide +kernel, rfl, by decide +kernel, by decide +kernel⟩
abbrev s_L_built : Stmt := top 45
abbrev N_L_built : List Str := ["_law_told_here", "_law_word", "_law_part_here"]
abbrev p_L_built : List Str := ["_law_told_here"]
theorem sc_L_built : FnScope N_L_built p_L_built (defScope s_L_built) := ⟨rfl, rfl, rfl, by decide +kernel, rfl, by decide +kernel, by decide +kernel⟩
abbrev s_L_loosened : Stmt := top 46
abbrev N_L_loosened : List Str := ["_law_state", "_law_told_here", "_law_word", "_law_parts", "_law_at", "_law_way", "_law_part_here"]
abbrev p_L_loosened : List Str := ["_law_state", "_law_told_here"]
theorem sc_L_loosened : FnScope N_L_loosened p_L_loosened (defScope s_L_loosened) := ⟨rfl, rfl, rfl, by decide +kernel, rfl, by decide +kernel, by decide +kernel⟩
abbrev s_L_other : Stmt := top 47
abbrev N_L_other : List Str := ["_law_state", "_law_told_here", "_law_word", "_law_inside", "_law_at", "_law_turned", "_law_name_here"]
abbrev p_L_other : List Str := ["_law_state", "_law_told_here"]
theorem sc_L_other : FnScope N_L_other p_L_other (defScope s_L_other) := ⟨rfl, rfl, rfl, by decide +kernel, rfl, by decide +kernel, by decide +kernel⟩
abbrev s_L_class_right : Stmt := top 48
abbrev N_L_class_right : List Str := ["_law_program", "_law_told_here", "_law_words", "_law_marks", "_law_asks", "_law_goes", "_law_word"]
abbrev p_L_class_right : List Str := ["_law_program", "_law_told_here"]
theorem sc_L_class_right : FnScope N_L_class_right p_L_class_right (defScope s_L_class_right) := ⟨rfl, rfl, rfl, by decide +kernel, rfl, by decide +kernel, by decide +kernel⟩
abbrev s_L_is : Stmt := top 49
abbrev N_L_is : List Str := ["_law_program", "_law_told_here", "_law_turn"]
abbrev p_L_is : List Str := ["_law_program", "_law_told_here"]
theorem sc_L_is : FnScope N_L_is p_L_is (defScope s_L_is) := ⟨rfl, rfl, rfl, by decide +kernel, rfl, by decide +kernel, by decide +kernel⟩
abbrev s_L_strange : Stmt := top 50
abbrev N_L_strange : List Str := ["_law_program", "_law_told_here", "_law_some", "_law_thing"]
abbrev p_L_strange : List Str := ["_law_program", "_law_told_here"]
theorem sc_L_strange : FnScope N_L_strange p_L_strange (defScope s_L_strange) := ⟨rfl, rfl, rfl, by decide +kernel, rfl, by decide +kernel, by decide +kernel⟩
abbrev s_law : Stmt := top 51
abbrev N_law : List Str := ["_law_script", "_law_state", "_law_turn", "_law_told_here", "_law_loose", "_law_kept_here", "_law_some", "_law_second", "_law_other_here", "_law_marks", "_law_one"]
abbrev p_law : List Str := ["_law_script"]
theorem sc_law : FnScope N_law p_law (defScope s_law) := ⟨rfl, rfl, rfl, by decide +kernel, rfl, by decide +kernel, by decide +kernel⟩
structure Txt (K : PySem.W.Frag) (mg : Str → Option Value) where
  cl : Nat → Addr
  a_told : Addr
  d_told : FuncData
  F_told : Fun K "told" "Program.told" s_told a_told d_told
  k_told : PySem.W.keepIn K (.ref a_told) = true
  b_told : Binds K d_told p_told []
  a_s_Program_of : Addr
  d_s_Program_of : FuncData
  F_s_Program_of : Fun K "of" "Program.of" s_s_Program_of a_s_Program_of d_s_Program_of
  k_s_Program_of : PySem.W.keepIn K (.ref a_s_Program_of) = true
  b_s_Program_of : Binds K d_s_Program_of p_s_Program_of []
  a_plen : Addr
  d_plen : FuncData
  F_plen : Fun K "__len__" "Program.__len__" s_plen a_plen d_plen
  k_plen : PySem.W.keepIn K (.ref a_plen) = true
  b_plen : Binds K d_plen p_plen []
  a_peq : Addr
  d_peq : FuncData
  F_peq : Fun K "__eq__" "Program.__eq__" s_peq a_peq d_peq
  k_peq : PySem.W.keepIn K (.ref a_peq) = true
  b_peq : Binds K d_peq p_peq []
  a_padd : Addr
  d_padd : FuncData
  F_padd : Fun K "__add__" "Program.__add__" s_padd a_padd d_padd
  k_padd : PySem.W.keepIn K (.ref a_padd) = true
  b_padd : Binds K d_padd p_padd []
  a_pmul : Addr
  d_pmul : FuncData
  F_pmul : Fun K "__mul__" "Program.__mul__" s_pmul a_pmul d_pmul
  k_pmul : PySem.W.keepIn K (.ref a_pmul) = true
  b_pmul : Binds K d_pmul p_pmul []
  a_i_Do : Addr
  d_i_Do : FuncData
  F_i_Do : Fun K "__init__" "Do.__init__" s_i_Do a_i_Do d_i_Do
  k_i_Do : PySem.W.keepIn K (.ref a_i_Do) = true
  b_i_Do : Binds K d_i_Do p_i_Do []
  a_i_Return : Addr
  d_i_Return : FuncData
  F_i_Return : Fun K "__init__" "Return.__init__" s_i_Return a_i_Return d_i_Return
  k_i_Return : PySem.W.keepIn K (.ref a_i_Return) = true
  b_i_Return : Binds K d_i_Return p_i_Return []
  a_i_Go : Addr
  d_i_Go : FuncData
  F_i_Go : Fun K "__init__" "Go.__init__" s_i_Go a_i_Go d_i_Go
  k_i_Go : PySem.W.keepIn K (.ref a_i_Go) = true
  b_i_Go : Binds K d_i_Go p_i_Go []
  a_i_End : Addr
  d_i_End : FuncData
  F_i_End : Fun K "__init__" "End.__init__" s_i_End a_i_End d_i_End
  k_i_End : PySem.W.keepIn K (.ref a_i_End) = true
  b_i_End : Binds K d_i_End p_i_End []
  a_i_If : Addr
  d_i_If : FuncData
  F_i_If : Fun K "__init__" "If.__init__" s_i_If a_i_If d_i_If
  k_i_If : PySem.W.keepIn K (.ref a_i_If) = true
  b_i_If : Binds K d_i_If p_i_If []
  a_i_While : Addr
  d_i_While : FuncData
  F_i_While : FunX K "__init__" "While.__init__" s_i_While [.bl true] a_i_While d_i_While
  k_i_While : PySem.W.keepIn K (.ref a_i_While) = true
  b_i_While : Binds K d_i_While p_i_While []
  bd_i_While : Binds K d_i_While p_i_While [.bool true]
  a_i_Forever : Addr
  d_i_Forever : FuncData
  F_i_Forever : Fun K "__init__" "Forever.__init__" s_i_Forever a_i_Forever d_i_Forever
  k_i_Forever : PySem.W.keepIn K (.ref a_i_Forever) = true
  b_i_Forever : Binds K d_i_Forever p_i_Forever []
  a_i_Row : Addr
  d_i_Row : FuncData
  F_i_Row : Fun K "__init__" "Row.__init__" s_i_Row a_i_Row d_i_Row
  k_i_Row : PySem.W.keepIn K (.ref a_i_Row) = true
  b_i_Row : Binds K d_i_Row p_i_Row []
  a_is_number : Addr
  d_is_number : FuncData
  F_is_number : Fun K "is_number" "is_number" s_is_number a_is_number d_is_number
  m_is_number : mg "is_number" = some (.ref a_is_number)
  k_is_number : PySem.W.keepIn K (.ref a_is_number) = true
  b_is_number : Binds K d_is_number p_is_number []
  a_is_name : Addr
  d_is_name : FuncData
  F_is_name : Fun K "is_name" "is_name" s_is_name a_is_name d_is_name
  m_is_name : mg "is_name" = some (.ref a_is_name)
  k_is_name : PySem.W.keepIn K (.ref a_is_name) = true
  b_is_name : Binds K d_is_name p_is_name []
  a_sized : Addr
  d_sized : FuncData
  F_sized : Fun K "sized" "sized" s_sized a_sized d_sized
  m_sized : mg "sized" = some (.ref a_sized)
  k_sized : PySem.W.keepIn K (.ref a_sized) = true
  b_sized : Binds K d_sized p_sized []
  a_need_program : Addr
  d_need_program : FuncData
  F_need_program : Fun K "need_program" "need_program" s_need_program a_need_program d_need_program
  m_need_program : mg "need_program" = some (.ref a_need_program)
  k_need_program : PySem.W.keepIn K (.ref a_need_program) = true
  b_need_program : Binds K d_need_program p_need_program []
  a_need_name : Addr
  d_need_name : FuncData
  F_need_name : Fun K "need_name" "need_name" s_need_name a_need_name d_need_name
  m_need_name : mg "need_name" = some (.ref a_need_name)
  k_need_name : PySem.W.keepIn K (.ref a_need_name) = true
  b_need_name : Binds K d_need_name p_need_name []
  a_parts_of : Addr
  d_parts_of : FuncData
  F_parts_of : Fun K "parts_of" "parts_of" s_parts_of a_parts_of d_parts_of
  m_parts_of : mg "parts_of" = some (.ref a_parts_of)
  k_parts_of : PySem.W.keepIn K (.ref a_parts_of) = true
  b_parts_of : Binds K d_parts_of p_parts_of []
  a_made_end : Addr
  d_made_end : FuncData
  F_made_end : Fun K "made_end" "made_end" s_made_end a_made_end d_made_end
  m_made_end : mg "made_end" = some (.ref a_made_end)
  k_made_end : PySem.W.keepIn K (.ref a_made_end) = true
  b_made_end : Binds K d_made_end p_made_end []
  a_made : Addr
  d_made : FuncData
  F_made : Fun K "made" "made" s_made a_made d_made
  m_made : mg "made" = some (.ref a_made)
  k_made : PySem.W.keepIn K (.ref a_made) = true
  b_made : Binds K d_made p_made []
  a_L_begin : Addr
  d_L_begin : FuncData
  F_L_begin : Fun K "_law_begin" "_law_begin" s_L_begin a_L_begin d_L_begin
  m_L_begin : mg "_law_begin" = some (.ref a_L_begin)
  k_L_begin : PySem.W.keepIn K (.ref a_L_begin) = true
  b_L_begin : Binds K d_L_begin p_L_begin []
  a_L_draw : Addr
  d_L_draw : FuncData
  F_L_draw : Fun K "_law_draw" "_law_draw" s_L_draw a_L_draw d_L_draw
  m_L_draw : mg "_law_draw" = some (.ref a_L_draw)
  k_L_draw : PySem.W.keepIn K (.ref a_L_draw) = true
  b_L_draw : Binds K d_L_draw p_L_draw []
  a_L_pick : Addr
  d_L_pick : FuncData
  F_L_pick : Fun K "_law_pick" "_law_pick" s_L_pick a_L_pick d_L_pick
  m_L_pick : mg "_law_pick" = some (.ref a_L_pick)
  k_L_pick : PySem.W.keepIn K (.ref a_L_pick) = true
  b_L_pick : Binds K d_L_pick p_L_pick []
  a_L_rounds : Addr
  d_L_rounds : FuncData
  F_L_rounds : Fun K "_law_rounds" "_law_rounds" s_L_rounds a_L_rounds d_L_rounds
  m_L_rounds : mg "_law_rounds" = some (.ref a_L_rounds)
  k_L_rounds : PySem.W.keepIn K (.ref a_L_rounds) = true
  b_L_rounds : Binds K d_L_rounds p_L_rounds []
  a_L_kept : Addr
  d_L_kept : FuncData
  F_L_kept : Fun K "_law_kept" "_law_kept" s_L_kept a_L_kept d_L_kept
  m_L_kept : mg "_law_kept" = some (.ref a_L_kept)
  k_L_kept : PySem.W.keepIn K (.ref a_L_kept) = true
  b_L_kept : Binds K d_L_kept p_L_kept []
  a_L_name : Addr
  d_L_name : FuncData
  F_L_name : Fun K "_law_name" "_law_name" s_L_name a_L_name d_L_name
  m_L_name : mg "_law_name" = some (.ref a_L_name)
  k_L_name : PySem.W.keepIn K (.ref a_L_name) = true
  b_L_name : Binds K d_L_name p_L_name []
  a_L_kit : Addr
  d_L_kit : FuncData
  F_L_kit : Fun K "_law_kit" "_law_kit" s_L_kit a_L_kit d_L_kit
  m_L_kit : mg "_law_kit" = some (.ref a_L_kit)
  k_L_kit : PySem.W.keepIn K (.ref a_L_kit) = true
  b_L_kit : Binds K d_L_kit p_L_kit []
  a_L_last : Addr
  d_L_last : FuncData
  F_L_last : Fun K "_law_last" "_law_last" s_L_last a_L_last d_L_last
  m_L_last : mg "_law_last" = some (.ref a_L_last)
  k_L_last : PySem.W.keepIn K (.ref a_L_last) = true
  b_L_last : Binds K d_L_last p_L_last []
  a_L_part : Addr
  d_L_part : FuncData
  F_L_part : Fun K "_law_part" "_law_part" s_L_part a_L_part d_L_part
  m_L_part : mg "_law_part" = some (.ref a_L_part)
  k_L_part : PySem.W.keepIn K (.ref a_L_part) = true
  b_L_part : Binds K d_L_part p_L_part []
  a_L_told : Addr
  d_L_told : FuncData
  F_L_told : Fun K "_law_told" "_law_told" s_L_told a_L_told d_L_told
  m_L_told : mg "_law_told" = some (.ref a_L_told)
  k_L_told : PySem.W.keepIn K (.ref a_L_told) = true
  b_L_told : Binds K d_L_told p_L_told []
  a_L_insides : Addr
  d_L_insides : FuncData
  F_L_insides : Fun K "_law_insides" "_law_insides" s_L_insides a_L_insides d_L_insides
  m_L_insides : mg "_law_insides" = some (.ref a_L_insides)
  k_L_insides : PySem.W.keepIn K (.ref a_L_insides) = true
  b_L_insides : Binds K d_L_insides p_L_insides []
  a_L_many : Addr
  d_L_many : FuncData
  F_L_many : Fun K "_law_many" "_law_many" s_L_many a_L_many d_L_many
  m_L_many : mg "_law_many" = some (.ref a_L_many)
  k_L_many : PySem.W.keepIn K (.ref a_L_many) = true
  b_L_many : Binds K d_L_many p_L_many []
  a_L_joined : Addr
  d_L_joined : FuncData
  F_L_joined : Fun K "_law_joined" "_law_joined" s_L_joined a_L_joined d_L_joined
  m_L_joined : mg "_law_joined" = some (.ref a_L_joined)
  k_L_joined : PySem.W.keepIn K (.ref a_L_joined) = true
  b_L_joined : Binds K d_L_joined p_L_joined []
  a_L_built : Addr
  d_L_built : FuncData
  F_L_built : Fun K "_law_built" "_law_built" s_L_built a_L_built d_L_built
  m_L_built : mg "_law_built" = some (.ref a_L_built)
  k_L_built : PySem.W.keepIn K (.ref a_L_built) = true
  b_L_built : Binds K d_L_built p_L_built []
  a_L_loosened : Addr
  d_L_loosened : FuncData
  F_L_loosened : Fun K "_law_loosened" "_law_loosened" s_L_loosened a_L_loosened d_L_loosened
  m_L_loosened : mg "_law_loosened" = some (.ref a_L_loosened)
  k_L_loosened : PySem.W.keepIn K (.ref a_L_loosened) = true
  b_L_loosened : Binds K d_L_loosened p_L_loosened []
  a_L_other : Addr
  d_L_other : FuncData
  F_L_other : Fun K "_law_other" "_law_other" s_L_other a_L_other d_L_other
  m_L_other : mg "_law_other" = some (.ref a_L_other)
  k_L_other : PySem.W.keepIn K (.ref a_L_other) = true
  b_L_other : Binds K d_L_other p_L_other []
  a_L_class_right : Addr
  d_L_class_right : FuncData
  F_L_class_right : Fun K "_law_class_right" "_law_class_right" s_L_class_right a_L_class_right d_L_class_right
  m_L_class_right : mg "_law_class_right" = some (.ref a_L_class_right)
  k_L_class_right : PySem.W.keepIn K (.ref a_L_class_right) = true
  b_L_class_right : Binds K d_L_class_right p_L_class_right []
  a_L_is : Addr
  d_L_is : FuncData
  F_L_is : Fun K "_law_is" "_law_is" s_L_is a_L_is d_L_is
  m_L_is : mg "_law_is" = some (.ref a_L_is)
  k_L_is : PySem.W.keepIn K (.ref a_L_is) = true
  b_L_is : Binds K d_L_is p_L_is []
  a_L_strange : Addr
  d_L_strange : FuncData
  F_L_strange : Fun K "_law_strange" "_law_strange" s_L_strange a_L_strange d_L_strange
  m_L_strange : mg "_law_strange" = some (.ref a_L_strange)
  k_L_strange : PySem.W.keepIn K (.ref a_L_strange) = true
  b_L_strange : Binds K d_L_strange p_L_strange []
  a_law : Addr
  d_law : FuncData
  F_law : Fun K "law" "law" s_law a_law d_law
  m_law : mg "law" = some (.ref a_law)
  k_law : PySem.W.keepIn K (.ref a_law) = true
  b_law : Binds K d_law p_law []
  n_abs : mg "abs" = none
  n_all : mg "all" = none
  n_bool : mg "bool" = none
  n_int : mg "int" = none
  n_isinstance : mg "isinstance" = none
  n_len : mg "len" = none
  n_list : mg "list" = none
  n_max : mg "max" = none
  n_min : mg "min" = none
  n_range : mg "range" = none
  n_repr : mg "repr" = none
  n_str : mg "str" = none
  n_sum : mg "sum" = none
  n_tuple : mg "tuple" = none
  v_DEEPEST : V
  c_DEEPEST : ∃ u, mg "DEEPEST" = some u ∧ RelV v_DEEPEST u
  r_DEEPEST : ∀ m Z H, Rep (Wd.mk K cl) m Z H k_DEEPEST v_DEEPEST
  v_KEPT : V
  c_KEPT : ∃ u, mg "KEPT" = some u ∧ RelV v_KEPT u
  r_KEPT : ∀ m Z H, Rep (Wd.mk K cl) m Z H k_KEPT v_KEPT
  v_LETTERS : V
  c_LETTERS : ∃ u, mg "LETTERS" = some u ∧ RelV v_LETTERS u
  r_LETTERS : ∀ m Z H, Rep (Wd.mk K cl) m Z H k_LETTERS v_LETTERS
  v_LONGEST : V
  c_LONGEST : ∃ u, mg "LONGEST" = some u ∧ RelV v_LONGEST u
  r_LONGEST : ∀ m Z H, Rep (Wd.mk K cl) m Z H k_LONGEST v_LONGEST
  v_MOST_PARTS : V
  c_MOST_PARTS : ∃ u, mg "MOST_PARTS" = some u ∧ RelV v_MOST_PARTS u
  r_MOST_PARTS : ∀ m Z H, Rep (Wd.mk K cl) m Z H k_MOST_PARTS v_MOST_PARTS
  v_MOST_TIMES : V
  c_MOST_TIMES : ∃ u, mg "MOST_TIMES" = some u ∧ RelV v_MOST_TIMES u
  r_MOST_TIMES : ∀ m Z H, Rep (Wd.mk K cl) m Z H k_MOST_TIMES v_MOST_TIMES
  v_NOTHING : V
  c_NOTHING : ∃ u, mg "NOTHING" = some u ∧ RelV v_NOTHING u
  r_NOTHING : ∀ m Z H, Rep (Wd.mk K cl) m Z H k_NOTHING v_NOTHING
  g_Program : mg "Program" = some (.ref (cl 0))
  g_Do : mg "Do" = some (.ref (cl 1))
  g_Return : mg "Return" = some (.ref (cl 2))
  g_Go : mg "Go" = some (.ref (cl 3))
  g_End : mg "End" = some (.ref (cl 4))
  g_If : mg "If" = some (.ref (cl 5))
  g_While : mg "While" = some (.ref (cl 6))
  g_Forever : mg "Forever" = some (.ref (cl 7))
  g_Row : mg "Row" = some (.ref (cl 8))
  g_Asking : mg "Asking" = some (.ref (cl 9))
  g_Loop : mg "Loop" = some (.ref (cl 10))
  M_Do : Mk K (cl 1) a_i_Do
  M_Return : Mk K (cl 2) a_i_Return
  M_Go : Mk K (cl 3) a_i_Go
  M_End : Mk K (cl 4) a_i_End
  M_If : Mk K (cl 5) a_i_If
  M_While : Mk K (cl 6) a_i_While
  M_Forever : Mk K (cl 7) a_i_Forever
  M_Row : Mk K (cl 8) a_i_Row
  a_held : ∀ c, okP c = true → Cls K (cl c) ∧ NoAttr K (cl c) (s2 "held")
  p_told : ∀ c, okP c = true → Cls K (cl c) ∧ ∃ p, PropOf K (cl c) "told" p a_told
  l_plen : ∀ c, okP c = true → PySem.W.findIn K (.ref (cl c)) "__len__" = some (some (.ref a_plen))
  f_plen : PySem.W.isFn K (.ref a_plen) = true
  o_padd : BinC (K) (Wd.mk K cl) okP "add" a_padd
  o_pmul : BinC (K) (Wd.mk K cl) okP "mul" a_pmul
  q_peq : CmpC K (Wd.mk K cl) okP okT a_peq
  sp_s_Program_of : Addr
  sm_s_Program_of : SMet K (cl 0) (.type "type") "of" sp_s_Program_of a_s_Program_of
  i_Asking : IsiOk (Wd.mk K cl) (.ref (cl 9)) pb_Asking pc_Asking
  i_Do : IsiOk (Wd.mk K cl) (.ref (cl 1)) pb_Do pc_Do
  i_End : IsiOk (Wd.mk K cl) (.ref (cl 4)) pb_End pc_End
  i_Forever : IsiOk (Wd.mk K cl) (.ref (cl 7)) pb_Forever pc_Forever
  i_Go : IsiOk (Wd.mk K cl) (.ref (cl 3)) pb_Go pc_Go
  i_If : IsiOk (Wd.mk K cl) (.ref (cl 5)) pb_If pc_If
  i_Loop : IsiOk (Wd.mk K cl) (.ref (cl 10)) pb_Loop pc_Loop
  i_Program : IsiOk (Wd.mk K cl) (.ref (cl 0)) pb_Program pc_Program
  i_Return : IsiOk (Wd.mk K cl) (.ref (cl 2)) pb_Return pc_Return
  i_Row : IsiOk (Wd.mk K cl) (.ref (cl 8)) pb_Row pc_Row
  i_While : IsiOk (Wd.mk K cl) (.ref (cl 6)) pb_While pc_While
  i_bool : IsiOk (Wd.mk K cl) (.type "bool") pb_bool pc_bool
  i_int : IsiOk (Wd.mk K cl) (.type "int") pb_int pc_int
  i_str : IsiOk (Wd.mk K cl) (.type "str") pb_str pc_str
  i_tuple : IsiOk (Wd.mk K cl) (.type "tuple") pb_tuple pc_tuple
abbrev Txt.w {K : PySem.W.Frag} {mg : Str → Option Value} (T : Txt K mg) : Wd := ⟨K, T.cl⟩
structure Oks (P : Program) (pw : World) (K : PySem.W.Frag) (mg : Str → Option Value) (base : Heap) (T : Txt K mg) (n : Nat) (E : Sem) : Prop where
  told : FnOk P pw K mg base CX0 (2 * n) T.a_told T.d_told p_told (spF T.w 1 E.told)
  s_Program_of : FnOk P pw K mg base CX0 (2 * n) T.a_s_Program_of T.d_s_Program_of p_s_Program_of (spF T.w 1 E.s_Program_of)
  plen : FnOk P pw K mg base CX0 (2 * n) T.a_plen T.d_plen p_plen (spF T.w 1 E.plen)
  peq : FnOk P pw K mg base CX0 (2 * n) T.a_peq T.d_peq p_peq (spF T.w 2 E.peq)
  padd : FnOk P pw K mg base CX0 (2 * n) T.a_padd T.d_padd p_padd (spF T.w 2 E.padd)
  pmul : FnOk P pw K mg base CX0 (2 * n) T.a_pmul T.d_pmul p_pmul (spF T.w 2 E.pmul)
  i_Do : FnOk P pw K mg base CX0 (2 * n) T.a_i_Do T.d_i_Do p_i_Do (spI T.w 1 2 E.i_Do)
  i_Return : FnOk P pw K mg base CX0 (2 * n) T.a_i_Return T.d_i_Return p_i_Return (spI T.w 2 2 E.i_Return)
  i_Go : FnOk P pw K mg base CX0 (2 * n) T.a_i_Go T.d_i_Go p_i_Go (spI T.w 3 2 E.i_Go)
  i_End : FnOk P pw K mg base CX0 (2 * n) T.a_i_End T.d_i_End p_i_End (spI T.w 4 1 E.i_End)
  i_If : FnOk P pw K mg base CX0 (2 * n) T.a_i_If T.d_i_If p_i_If (spI T.w 5 4 E.i_If)
  i_While : FnOk P pw K mg base CX0 (2 * n) T.a_i_While T.d_i_While p_i_While (spI T.w 6 4 E.i_While)
  i_Forever : FnOk P pw K mg base CX0 (2 * n) T.a_i_Forever T.d_i_Forever p_i_Forever (spI T.w 7 2 E.i_Forever)
  i_Row : FnOk P pw K mg base CX0 (2 * n) T.a_i_Row T.d_i_Row p_i_Row (spI T.w 8 2 E.i_Row)
  is_number : FnOk P pw K mg base CX0 (2 * n) T.a_is_number T.d_is_number p_is_number (spF T.w 1 E.is_number)
  is_name : FnOk P pw K mg base CX0 (2 * n) T.a_is_name T.d_is_name p_is_name (spF T.w 1 E.is_name)
  sized : FnOk P pw K mg base CX0 (2 * n) T.a_sized T.d_sized p_sized (spF T.w 3 E.sized)
  need_program : FnOk P pw K mg base CX0 (2 * n) T.a_need_program T.d_need_program p_need_program (spF T.w 1 E.need_program)
  need_name : FnOk P pw K mg base CX0 (2 * n) T.a_need_name T.d_need_name p_need_name (spF T.w 1 E.need_name)
  parts_of : FnOk P pw K mg base CX0 (2 * n) T.a_parts_of T.d_parts_of p_parts_of (spF T.w 1 E.parts_of)
  made_end : FnOk P pw K mg base CX0 (2 * n) T.a_made_end T.d_made_end p_made_end (spF T.w 1 E.made_end)
  made : FnOk P pw K mg base CX0 (2 * n) T.a_made T.d_made p_made (spF T.w 1 E.made)
  L_begin : FnOk P pw K mg base CX0 (2 * n) T.a_L_begin T.d_L_begin p_L_begin (spF T.w 1 E.L_begin)
  L_draw : FnOk P pw K mg base CX0 (2 * n) T.a_L_draw T.d_L_draw p_L_draw (spF T.w 2 E.L_draw)
  L_pick : FnOk P pw K mg base CX0 (2 * n) T.a_L_pick T.d_L_pick p_L_pick (spF T.w 2 E.L_pick)
  L_rounds : FnOk P pw K mg base CX0 (2 * n) T.a_L_rounds T.d_L_rounds p_L_rounds (spF T.w 3 E.L_rounds)
  L_kept : FnOk P pw K mg base CX0 (2 * n) T.a_L_kept T.d_L_kept p_L_kept (spF T.w 0 E.L_kept)
  L_name : FnOk P pw K mg base CX0 (2 * n) T.a_L_name T.d_L_name p_L_name (spF T.w 1 E.L_name)
  L_kit : FnOk P pw K mg base CX0 (2 * n) T.a_L_kit T.d_L_kit p_L_kit (spF T.w 3 E.L_kit)
  L_last : FnOk P pw K mg base CX0 (2 * n) T.a_L_last T.d_L_last p_L_last (spF T.w 2 E.L_last)
  L_part : FnOk P pw K mg base CX0 (2 * n) T.a_L_part T.d_L_part p_L_part (spF T.w 3 E.L_part)
  L_told : FnOk P pw K mg base CX0 (2 * n) T.a_L_told T.d_L_told p_L_told (spF T.w 3 E.L_told)
  L_insides : FnOk P pw K mg base CX0 (2 * n) T.a_L_insides T.d_L_insides p_L_insides (spF T.w 1 E.L_insides)
  L_many : FnOk P pw K mg base CX0 (2 * n) T.a_L_many T.d_L_many p_L_many (spF T.w 1 E.L_many)
  L_joined : FnOk P pw K mg base CX0 (2 * n) T.a_L_joined T.d_L_joined p_L_joined (spF T.w 1 E.L_joined)
  L_built : FnOk P pw K mg base CX0 (2 * n) T.a_L_built T.d_L_built p_L_built (spF T.w 1 E.L_built)
  L_loosened : FnOk P pw K mg base CX0 (2 * n) T.a_L_loosened T.d_L_loosened p_L_loosened (spF T.w 2 E.L_loosened)
  L_other : FnOk P pw K mg base CX0 (2 * n) T.a_L_other T.d_L_other p_L_other (spF T.w 2 E.L_other)
  L_class_right : FnOk P pw K mg base CX0 (2 * n) T.a_L_class_right T.d_L_class_right p_L_class_right (spF T.w 2 E.L_class_right)
  L_is : FnG P pw K mg base (2 * n) T.a_L_is T.d_L_is p_L_is (spF T.w 2 E.L_is)
  L_strange : FnG P pw K mg base (2 * n) T.a_L_strange T.d_L_strange p_L_strange (spF T.w 2 E.L_strange)
  law : FnG P pw K mg base (2 * n) T.a_law T.d_law p_law (spF T.w 1 E.law)
theorem t_told {P : Program} {pw : World} {K : PySem.W.Frag} {mg : Str → Option Value} {base : Heap} {n : Nat} {f : Addr} {E : Sem} (T : Txt K mg) (A : Oks P pw K mg base T n E) (cdv : Value) (A0 : Around) (outer : List Env) (s : Shared) (H : Hp) (Ex : XK) (hr : Room (2 * n + 1) (A0.deeper (PyProof.Rows.envOfC "Program.told" (defScope s_told) s.heap.objs.size f cdv))) :
    PSs (cxOf CX0 P pw K mg base N_told "Program.told" (defScope s_told) f cdv A0 outer s H Ex).nox (defBody s_told) (rdS T.w WF (v_told E)) := by
  have hr0 : Room (2 * n) (A0.deeper (PyProof.Rows.envOfC "Program.told" (defScope s_told) s.heap.objs.size f cdv)) := hr.mono (by omega)
  exact (ss_cons (st_ret (eIx (e_fld T.a_held rfl (pvE 0)) e_int))
  ss_nil)
theorem t_s_Program_of {P : Program} {pw : World} {K : PySem.W.Frag} {mg : Str → Option Value} {base : Heap} {n : Nat} {f : Addr} {E : Sem} (T : Txt K mg) (A : Oks P pw K mg base T n E) (cdv : Value) (A0 : Around) (outer : List Env) (s : Shared) (H : Hp) (Ex : XK) (hr : Room (2 * n + 1) (A0.deeper (PyProof.Rows.envOfC "Program.of" (defScope s_s_Program_of) s.heap.objs.size f cdv))) :
    PSs (cxOf CX0 P pw K mg base N_s_Program_of "Program.of" (defScope s_s_Program_of) f cdv A0 outer s H Ex).nox (defBody s_s_Program_of) (rdS T.w WF (v_s_Program_of E)) := by
  have hr0 : Room (2 * n) (A0.deeper (PyProof.Rows.envOfC "Program.of" (defScope s_s_Program_of) s.heap.objs.size f cdv)) := hr.mono (by omega)
  exact (ss_cons (st_ret (e_call A.made hr0 rfl T.m_made T.k_made T.b_made .nil def_nil (by decide) rfl rfl (aC (pvE 0) a_nil)))
  ss_nil)
theorem t_plen {P : Program} {pw : World} {K : PySem.W.Frag} {mg : Str → Option Value} {base : Heap} {n : Nat} {f : Addr} {E : Sem} (T : Txt K mg) (A : Oks P pw K mg base T n E) (cdv : Value) (A0 : Around) (outer : List Env) (s : Shared) (H : Hp) (Ex : XK) (hr : Room (2 * n + 1) (A0.deeper (PyProof.Rows.envOfC "Program.__len__" (defScope s_plen) s.heap.objs.size f cdv))) :
    PSs (cxOf CX0 P pw K mg base N_plen "Program.__len__" (defScope s_plen) f cdv A0 outer s H Ex).nox (defBody s_plen) (rdS T.w WF (v_plen E)) := by
  have hr0 : Room (2 * n) (A0.deeper (PyProof.Rows.envOfC "Program.__len__" (defScope s_plen) s.heap.objs.size f cdv)) := hr.mono (by omega)
  exact (ss_cons (st_ret (e_bf1 (ok_len rfl) call_len (bn_of rfl T.n_len (by decide +kernel)) ⟨rfl, rfl⟩ (eIx (e_fld T.a_held rfl (pvE 0)) e_int)))
  ss_nil)
theorem t_peq {P : Program} {pw : World} {K : PySem.W.Frag} {mg : Str → Option Value} {base : Heap} {n : Nat} {f : Addr} {E : Sem} (T : Txt K mg) (A : Oks P pw K mg base T n E) (cdv : Value) (A0 : Around) (outer : List Env) (s : Shared) (H : Hp) (Ex : XK) (hr : Room (2 * n + 1) (A0.deeper (PyProof.Rows.envOfC "Program.__eq__" (defScope s_peq) s.heap.objs.size f cdv))) :
    PSs (cxOf CX0 P pw K mg base N_peq "Program.__eq__" (defScope s_peq) f cdv A0 outer s H Ex).nox (defBody s_peq) (rdS T.w WF (v_peq E)) := by
  have hr0 : Room (2 * n) (A0.deeper (PyProof.Rows.envOfC "Program.__eq__" (defScope s_peq) s.heap.objs.size f cdv)) := hr.mono (by omega)
  exact (ss_cons (st_ret (e_and (e_isi rfl (bn_of rfl T.n_isinstance (by decide +kernel)) T.i_Program (.own _) (pe_glob rfl T.g_Program rfl (by decide)) rfl rfl rfl (pvE 1)) (e_and1 (eC ok_eq (op_eqP (cr_of hr rfl)) (eIx (e_fld T.a_held rfl (pvE 0)) e_int) (eIx (e_fld T.a_held rfl (pvE 1)) e_int)))))
  ss_nil)
theorem t_padd {P : Program} {pw : World} {K : PySem.W.Frag} {mg : Str → Option Value} {base : Heap} {n : Nat} {f : Addr} {E : Sem} (T : Txt K mg) (A : Oks P pw K mg base T n E) (cdv : Value) (A0 : Around) (outer : List Env) (s : Shared) (H : Hp) (Ex : XK) (hr : Room (2 * n + 1) (A0.deeper (PyProof.Rows.envOfC "Program.__add__" (defScope s_padd) s.heap.objs.size f cdv))) :
    PSs (cxOf CX0 P pw K mg base N_padd "Program.__add__" (defScope s_padd) f cdv A0 outer s H Ex).nox (defBody s_padd) (rdS T.w WF (v_padd E)) := by
  have hr0 : Room (2 * n) (A0.deeper (PyProof.Rows.envOfC "Program.__add__" (defScope s_padd) s.heap.objs.size f cdv)) := hr.mono (by omega)
  exact (ss_cons (st_expr rfl (e_call A.need_program hr0 rfl T.m_need_program T.k_need_program T.b_need_program .nil def_nil (by decide) rfl rfl (aC (pvE 1) a_nil)))
  (ss_cons (st_ret (e_make T.M_Row A.i_Row hr rfl T.g_Row T.b_i_Row .nil def_nil (by decide) rfl rfl (aC (e_tup (aC (pvE 0) (aC (pvE 1) a_nil))) a_nil)))
  ss_nil))
theorem t_pmul {P : Program} {pw : World} {K : PySem.W.Frag} {mg : Str → Option Value} {base : Heap} {n : Nat} {f : Addr} {E : Sem} (T : Txt K mg) (A : Oks P pw K mg base T n E) (cdv : Value) (A0 : Around) (outer : List Env) (s : Shared) (H : Hp) (Ex : XK) (hr : Room (2 * n + 1) (A0.deeper (PyProof.Rows.envOfC "Program.__mul__" (defScope s_pmul) s.heap.objs.size f cdv))) :
    PSs (cxOf CX0 P pw K mg base N_pmul "Program.__mul__" (defScope s_pmul) f cdv A0 outer s H Ex).nox (defBody s_pmul) (rdS T.w WF (v_pmul E)) := by
  have hr0 : Room (2 * n) (A0.deeper (PyProof.Rows.envOfC "Program.__mul__" (defScope s_pmul) s.heap.objs.size f cdv)) := hr.mono (by omega)
  exact (ss_cons (st_if (PW.pt (w_or (t_not (tV (e_call A.is_number hr0 rfl T.m_is_number T.k_is_number T.b_is_number .nil def_nil (by decide) rfl rfl (aC (pvE 1) a_nil)))) (w_or1 (t_not (tChain' ok_cmp ok_cmp op_le op_le e_int (pvE 1) (e_glob rfl T.c_MOST_TIMES (by decide) T.r_MOST_TIMES))))))
  (ss_cons st_bad
  ss_nil)
  ss_nil)
  (ss_cons (st_ret (e_make T.M_Row A.i_Row hr rfl T.g_Row T.b_i_Row .nil def_nil (by decide) rfl rfl (aC (e_op2 ok_mul op_mulA (e_tup (aC (pvE 0) a_nil)) (pvE 1)) a_nil)))
  ss_nil))
theorem t_i_Do {P : Program} {pw : World} {K : PySem.W.Frag} {mg : Str → Option Value} {base : Heap} {n : Nat} {f : Addr} {E : Sem} (T : Txt K mg) (A : Oks P pw K mg base T n E) (cdv : Value) (A0 : Around) (outer : List Env) (s : Shared) (H : Hp) (Ex : XK) (hr : Room (2 * n + 1) (A0.deeper (PyProof.Rows.envOfC "Do.__init__" (defScope s_i_Do) s.heap.objs.size f cdv))) :
    PSs (cxOf CX0 P pw K mg base N_i_Do "Do.__init__" (defScope s_i_Do) f cdv A0 outer s H Ex).nox (defBody s_i_Do) (rdS T.w WF (v_i_Do E)) := by
  have hr0 : Room (2 * n) (A0.deeper (PyProof.Rows.envOfC "Do.__init__" (defScope s_i_Do) s.heap.objs.size f cdv)) := hr.mono (by omega)
  exact (ss_cons (st_expr rfl (e_call A.need_name hr0 rfl T.m_need_name T.k_need_name T.b_need_name .nil def_nil (by decide) rfl rfl (aC (pvE 1) a_nil)))
  (ss_cons (st_fldS T.a_held rfl (.inl rfl) (by decide) (by decide) rfl (e_call A.sized hr0 rfl T.m_sized T.k_sized T.b_sized .nil def_nil (by decide) rfl rfl (aC (e_tup (aC e_str (aC (pvE 1) a_nil))) (aC e_int (aC e_int a_nil)))))
  ss_nil))
theorem t_i_Return {P : Program} {pw : World} {K : PySem.W.Frag} {mg : Str → Option Value} {base : Heap} {n : Nat} {f : Addr} {E : Sem} (T : Txt K mg) (A : Oks P pw K mg base T n E) (cdv : Value) (A0 : Around) (outer : List Env) (s : Shared) (H : Hp) (Ex : XK) (hr : Room (2 * n + 1) (A0.deeper (PyProof.Rows.envOfC "Return.__init__" (defScope s_i_Return) s.heap.objs.size f cdv))) :
    PSs (cxOf CX0 P pw K mg base N_i_Return "Return.__init__" (defScope s_i_Return) f cdv A0 outer s H Ex).nox (defBody s_i_Return) (rdS T.w WF (v_i_Return E)) := by
  have hr0 : Room (2 * n) (A0.deeper (PyProof.Rows.envOfC "Return.__init__" (defScope s_i_Return) s.heap.objs.size f cdv)) := hr.mono (by omega)
  exact (ss_cons (st_expr rfl (e_call A.need_name hr0 rfl T.m_need_name T.k_need_name T.b_need_name .nil def_nil (by decide) rfl rfl (aC (pvE 1) a_nil)))
  (ss_cons (st_fldS T.a_held rfl (.inl rfl) (by decide) (by decide) rfl (e_call A.sized hr0 rfl T.m_sized T.k_sized T.b_sized .nil def_nil (by decide) rfl rfl (aC (e_tup (aC e_str (aC (pvE 1) a_nil))) (aC e_int (aC e_int a_nil)))))
  ss_nil))
theorem t_i_Go {P : Program} {pw : World} {K : PySem.W.Frag} {mg : Str → Option Value} {base : Heap} {n : Nat} {f : Addr} {E : Sem} (T : Txt K mg) (A : Oks P pw K mg base T n E) (cdv : Value) (A0 : Around) (outer : List Env) (s : Shared) (H : Hp) (Ex : XK) (hr : Room (2 * n + 1) (A0.deeper (PyProof.Rows.envOfC "Go.__init__" (defScope s_i_Go) s.heap.objs.size f cdv))) :
    PSs (cxOf CX0 P pw K mg base N_i_Go "Go.__init__" (defScope s_i_Go) f cdv A0 outer s H Ex).nox (defBody s_i_Go) (rdS T.w WF (v_i_Go E)) := by
  have hr0 : Room (2 * n) (A0.deeper (PyProof.Rows.envOfC "Go.__init__" (defScope s_i_Go) s.heap.objs.size f cdv)) := hr.mono (by omega)
  exact (ss_cons (st_expr rfl (e_call A.need_name hr0 rfl T.m_need_name T.k_need_name T.b_need_name .nil def_nil (by decide) rfl rfl (aC (pvE 1) a_nil)))
  (ss_cons (st_fldS T.a_held rfl (.inl rfl) (by decide) (by decide) rfl (e_call A.sized hr0 rfl T.m_sized T.k_sized T.b_sized .nil def_nil (by decide) rfl rfl (aC (e_tup (aC e_str (aC (pvE 1) a_nil))) (aC e_int (aC e_int a_nil)))))
  ss_nil))
theorem t_i_End {P : Program} {pw : World} {K : PySem.W.Frag} {mg : Str → Option Value} {base : Heap} {n : Nat} {f : Addr} {E : Sem} (T : Txt K mg) (A : Oks P pw K mg base T n E) (cdv : Value) (A0 : Around) (outer : List Env) (s : Shared) (H : Hp) (Ex : XK) (hr : Room (2 * n + 1) (A0.deeper (PyProof.Rows.envOfC "End.__init__" (defScope s_i_End) s.heap.objs.size f cdv))) :
    PSs (cxOf CX0 P pw K mg base N_i_End "End.__init__" (defScope s_i_End) f cdv A0 outer s H Ex).nox (defBody s_i_End) (rdS T.w WF (v_i_End E)) := by
  have hr0 : Room (2 * n) (A0.deeper (PyProof.Rows.envOfC "End.__init__" (defScope s_i_End) s.heap.objs.size f cdv)) := hr.mono (by omega)
  exact (ss_cons (st_fldS T.a_held rfl (.inl rfl) (by decide) (by decide) rfl (e_call A.sized hr0 rfl T.m_sized T.k_sized T.b_sized .nil def_nil (by decide) rfl rfl (aC (e_tup (aC e_str a_nil)) (aC e_int (aC e_int a_nil)))))
  ss_nil)
theorem t_i_If {P : Program} {pw : World} {K : PySem.W.Frag} {mg : Str → Option Value} {base : Heap} {n : Nat} {f : Addr} {E : Sem} (T : Txt K mg) (A : Oks P pw K mg base T n E) (cdv : Value) (A0 : Around) (outer : List Env) (s : Shared) (H : Hp) (Ex : XK) (hr : Room (2 * n + 1) (A0.deeper (PyProof.Rows.envOfC "If.__init__" (defScope s_i_If) s.heap.objs.size f cdv))) :
    PSs (cxOf CX0 P pw K mg base N_i_If "If.__init__" (defScope s_i_If) f cdv A0 outer s H Ex).nox (defBody s_i_If) (rdS T.w WF (v_i_If E)) := by
  have hr0 : Room (2 * n) (A0.deeper (PyProof.Rows.envOfC "If.__init__" (defScope s_i_If) s.heap.objs.size f cdv)) := hr.mono (by omega)
  exact (ss_cons (st_expr rfl (e_call A.need_name hr0 rfl T.m_need_name T.k_need_name T.b_need_name .nil def_nil (by decide) rfl rfl (aC (pvE 1) a_nil)))
  (ss_cons (st_expr rfl (e_call A.need_program hr0 rfl T.m_need_program T.k_need_program T.b_need_program .nil def_nil (by decide) rfl rfl (aC (pvE 2) a_nil)))
  (ss_cons (st_expr rfl (e_call A.need_program hr0 rfl T.m_need_program T.k_need_program T.b_need_program .nil def_nil (by decide) rfl rfl (aC (pvE 3) a_nil)))
  (ss_cons (st_fldS T.a_held rfl (.inl rfl) (by decide) (by decide) rfl (e_call A.sized hr0 rfl T.m_sized T.k_sized T.b_sized .nil def_nil (by decide) rfl rfl (aC (e_tup (aC e_str (aC (pvE 1) (aC (e_prop rfl 1 rfl T.p_told A.told hr T.b_told rfl (pvE 2)) (aC (e_prop rfl 1 rfl T.p_told A.told hr T.b_told rfl (pvE 3)) a_nil))))) (aC (e_op2 ok_add op_addA (e_op2 ok_add op_addA e_int (e_lenO rfl rfl T.l_plen T.f_plen A.plen hr T.b_plen (bn_of rfl T.n_len (by decide +kernel)) rfl rfl (aC (pvE 2) a_nil))) (e_lenO rfl rfl T.l_plen T.f_plen A.plen hr T.b_plen (bn_of rfl T.n_len (by decide +kernel)) rfl rfl (aC (pvE 3) a_nil))) (aC (e_op2 ok_add op_addA e_int (e_bf2 ok_max2 (call_max2 rfl) (bn_of rfl T.n_max (by decide +kernel)) ⟨rfl, rfl, rfl⟩ (eIx (e_fld T.a_held rfl (pvE 2)) e_int) (eIx (e_fld T.a_held rfl (pvE 3)) e_int))) a_nil)))))
  ss_nil))))
theorem t_i_While {P : Program} {pw : World} {K : PySem.W.Frag} {mg : Str → Option Value} {base : Heap} {n : Nat} {f : Addr} {E : Sem} (T : Txt K mg) (A : Oks P pw K mg base T n E) (cdv : Value) (A0 : Around) (outer : List Env) (s : Shared) (H : Hp) (Ex : XK) (hr : Room (2 * n + 1) (A0.deeper (PyProof.Rows.envOfC "While.__init__" (defScope s_i_While) s.heap.objs.size f cdv))) :
    PSs (cxOf CX0 P pw K mg base N_i_While "While.__init__" (defScope s_i_While) f cdv A0 outer s H Ex).nox (defBody s_i_While) (rdS T.w WF (v_i_While E)) := by
  have hr0 : Room (2 * n) (A0.deeper (PyProof.Rows.envOfC "While.__init__" (defScope s_i_While) s.heap.objs.size f cdv)) := hr.mono (by omega)
  exact (ss_cons (st_expr rfl (e_call A.need_name hr0 rfl T.m_need_name T.k_need_name T.b_need_name .nil def_nil (by decide) rfl rfl (aC (pvE 1) a_nil)))
  (ss_cons (st_expr rfl (e_call A.need_program hr0 rfl T.m_need_program T.k_need_program T.b_need_program .nil def_nil (by decide) rfl rfl (aC (pvE 2) a_nil)))
  (ss_cons (st_if (t_not (tV (e_isi rfl (bn_of rfl T.n_isinstance (by decide +kernel)) T.i_bool (.ty "bool") (pe_bltn rfl T.n_bool (by decide +kernel) rfl (by decide) (by decide)) rfl rfl rfl (pvE 3))))
  (ss_cons st_bad
  ss_nil)
  ss_nil)
  (ss_cons (st_fldS T.a_held rfl (.inl rfl) (by decide) (by decide) rfl (e_call A.sized hr0 rfl T.m_sized T.k_sized T.b_sized .nil def_nil (by decide) rfl rfl (aC (e_tup (aC e_str (aC (pvE 1) (aC (pvE 3) (aC (e_prop rfl 1 rfl T.p_told A.told hr T.b_told rfl (pvE 2)) a_nil))))) (aC (e_op2 ok_add op_addA e_int (e_lenO rfl rfl T.l_plen T.f_plen A.plen hr T.b_plen (bn_of rfl T.n_len (by decide +kernel)) rfl rfl (aC (pvE 2) a_nil))) (aC (e_op2 ok_add op_addA e_int (eIx (e_fld T.a_held rfl (pvE 2)) e_int)) a_nil)))))
  ss_nil))))
theorem t_i_Forever {P : Program} {pw : World} {K : PySem.W.Frag} {mg : Str → Option Value} {base : Heap} {n : Nat} {f : Addr} {E : Sem} (T : Txt K mg) (A : Oks P pw K mg base T n E) (cdv : Value) (A0 : Around) (outer : List Env) (s : Shared) (H : Hp) (Ex : XK) (hr : Room (2 * n + 1) (A0.deeper (PyProof.Rows.envOfC "Forever.__init__" (defScope s_i_Forever) s.heap.objs.size f cdv))) :
    PSs (cxOf CX0 P pw K mg base N_i_Forever "Forever.__init__" (defScope s_i_Forever) f cdv A0 outer s H Ex).nox (defBody s_i_Forever) (rdS T.w WF (v_i_Forever E)) := by
  have hr0 : Room (2 * n) (A0.deeper (PyProof.Rows.envOfC "Forever.__init__" (defScope s_i_Forever) s.heap.objs.size f cdv)) := hr.mono (by omega)
  exact (ss_cons (st_expr rfl (e_call A.need_program hr0 rfl T.m_need_program T.k_need_program T.b_need_program .nil def_nil (by decide) rfl rfl (aC (pvE 1) a_nil)))
  (ss_cons (st_if (tC' ok_eq (op_eqP (cr_of hr rfl)) (e_prop rfl 1 rfl T.p_told A.told hr T.b_told rfl (pvE 1)) (e_glob rfl T.c_NOTHING (by decide) T.r_NOTHING))
  (ss_cons st_bad
  ss_nil)
  ss_nil)
  (ss_cons (st_fldS T.a_held rfl (.inl rfl) (by decide) (by decide) rfl (e_call A.sized hr0 rfl T.m_sized T.k_sized T.b_sized .nil def_nil (by decide) rfl rfl (aC (e_tup (aC e_str (aC (e_prop rfl 1 rfl T.p_told A.told hr T.b_told rfl (pvE 1)) a_nil))) (aC (e_op2 ok_add op_addA e_int (e_lenO rfl rfl T.l_plen T.f_plen A.plen hr T.b_plen (bn_of rfl T.n_len (by decide +kernel)) rfl rfl (aC (pvE 1) a_nil))) (aC (e_op2 ok_add op_addA e_int (eIx (e_fld T.a_held rfl (pvE 1)) e_int)) a_nil)))))
  ss_nil)))
theorem t_i_Row {P : Program} {pw : World} {K : PySem.W.Frag} {mg : Str → Option Value} {base : Heap} {n : Nat} {f : Addr} {E : Sem} (T : Txt K mg) (A : Oks P pw K mg base T n E) (cdv : Value) (A0 : Around) (outer : List Env) (s : Shared) (H : Hp) (Ex : XK) (hr : Room (2 * n + 1) (A0.deeper (PyProof.Rows.envOfC "Row.__init__" (defScope s_i_Row) s.heap.objs.size f cdv))) :
    PSs (cxOf CX0 P pw K mg base N_i_Row "Row.__init__" (defScope s_i_Row) f cdv A0 outer s H Ex).nox (defBody s_i_Row) (rdS T.w WF (v_i_Row E)) := by
  have hr0 : Room (2 * n) (A0.deeper (PyProof.Rows.envOfC "Row.__init__" (defScope s_i_Row) s.heap.objs.size f cdv)) := hr.mono (by omega)
  exact (ss_cons (st_if (t_not (tV (e_isi rfl (bn_of rfl T.n_isinstance (by decide +kernel)) T.i_tuple (.ty "tuple") (pe_bltn rfl T.n_tuple (by decide +kernel) rfl (by decide) (by decide)) rfl rfl rfl (pvE 1))))
  (ss_cons st_bad
  ss_nil)
  ss_nil)
  (ss_cons (stSet 2 sc_i_Row.nd (e_lst a_nil) (stoE sc_i_Row.nd))
  (ss_cons (stSet 3 sc_i_Row.nd e_int (stoE sc_i_Row.nd))
  (ss_cons (stSet 4 sc_i_Row.nd e_int (stoE sc_i_Row.nd))
  (ss_cons (stFor (i_seq rfl (pvE 1)) (gNmE 5 (stoE sc_i_Row.nd))
  (ss_cons (st_expr rfl (e_call A.need_program hr0 rfl T.m_need_program T.k_need_program T.b_need_program .nil def_nil (by decide) rfl rfl (aC (pvE 5) a_nil)))
  (ss_cons (st_asg rfl rfl rfl (g_tp rfl rfl rfl rfl (g_and rfl (gNmE 6 (stoE sc_i_Row.nd)) (g_and rfl (gNmE 7 (stoE sc_i_Row.nd)) (g_and rfl (gNmE 8 (stoE sc_i_Row.nd)) g_no)))) (e_fld T.a_held rfl (pvE 5)))
  (ss_cons (stSet 9 sc_i_Row.nd (e_call A.parts_of hr0 rfl T.m_parts_of T.k_parts_of T.b_parts_of .nil def_nil (by decide) rfl rfl (aC (pvE 6) a_nil)) (stoE sc_i_Row.nd))
  (ss_cons (stSet 3 sc_i_Row.nd (e_op2 ok_add op_addA (pvE 3) (e_if (tC' ok_eq (op_eqP (cr_of hr rfl)) (e_bf1 (ok_len rfl) call_len (bn_of rfl T.n_len (by decide +kernel)) ⟨rfl, rfl⟩ (pvE 9)) e_int) (e_bf1 (ok_len rfl) call_len (bn_of rfl T.n_len (by decide +kernel)) ⟨rfl, rfl⟩ (pvE 7)) (e_op2 ok_II op_subC (e_bf1 (ok_len rfl) call_len (bn_of rfl T.n_len (by decide +kernel)) ⟨rfl, rfl⟩ (pvE 7)) e_int))) (stoE sc_i_Row.nd))
  (ss_cons (stSet 4 sc_i_Row.nd (e_bf2 ok_max2 (call_max2 rfl) (bn_of rfl T.n_max (by decide +kernel)) ⟨rfl, rfl, rfl⟩ (pvE 4) (pvE 8)) (stoE sc_i_Row.nd))
  (ss_cons (st_if (tC' ok_cmp op_gt (pvE 3) (e_glob rfl T.c_MOST_PARTS (by decide) T.r_MOST_PARTS))
  (ss_cons st_bad
  ss_nil)
  ss_nil)
  (ss_cons (stSet 2 sc_i_Row.nd (e_op2 ok_add op_addA (pvE 2) (e_bt1 (ok_lstOf rfl) call_list_of (bn_of rfl T.n_list (by decide +kernel)) ⟨rfl, rfl⟩ (pvE 9))) (stoE sc_i_Row.nd))
  ss_nil))))))))
  (ss_cons (st_if (tC' ok_eq (op_eqP (cr_of hr rfl)) (e_bf1 (ok_len rfl) call_len (bn_of rfl T.n_len (by decide +kernel)) ⟨rfl, rfl⟩ (pvE 2)) e_int)
  (ss_cons (st_fldS T.a_held rfl (.inl rfl) (by decide) (by decide) rfl (e_call A.sized hr0 rfl T.m_sized T.k_sized T.b_sized .nil def_nil (by decide) rfl rfl (aC (eIx (pvE 2) e_int) (aC (pvE 3) (aC (pvE 4) a_nil)))))
  ss_nil)
  (ss_cons (st_fldS T.a_held rfl (.inl rfl) (by decide) (by decide) rfl (e_call A.sized hr0 rfl T.m_sized T.k_sized T.b_sized .nil def_nil (by decide) rfl rfl (aC (e_tup (aC e_str (aC (e_bt1 (ok_tupOf rfl) call_tuple_of (bn_of rfl T.n_tuple (by decide +kernel)) ⟨rfl, rfl⟩ (pvE 2)) a_nil))) (aC (e_op2 ok_add op_addA (pvE 3) e_int) (aC (pvE 4) a_nil)))))
  ss_nil))
  ss_nil))))))
theorem t_is_number {P : Program} {pw : World} {K : PySem.W.Frag} {mg : Str → Option Value} {base : Heap} {n : Nat} {f : Addr} {E : Sem} (T : Txt K mg) (A : Oks P pw K mg base T n E) (cdv : Value) (A0 : Around) (outer : List Env) (s : Shared) (H : Hp) (Ex : XK) (hr : Room (2 * n + 1) (A0.deeper (PyProof.Rows.envOfC "is_number" (defScope s_is_number) s.heap.objs.size f cdv))) :
    PSs (cxOf CX0 P pw K mg base N_is_number "is_number" (defScope s_is_number) f cdv A0 outer s H Ex).nox (defBody s_is_number) (rdS T.w WF (v_is_number E)) := by
  have hr0 : Room (2 * n) (A0.deeper (PyProof.Rows.envOfC "is_number" (defScope s_is_number) s.heap.objs.size f cdv)) := hr.mono (by omega)
  exact (ss_cons (st_ret (e_and (e_isi rfl (bn_of rfl T.n_isinstance (by decide +kernel)) T.i_int (.ty "int") (pe_bltn rfl T.n_int (by decide +kernel) rfl (by decide) (by decide)) rfl rfl rfl (pvE 0)) (e_and1 (e_not (e_isi rfl (bn_of rfl T.n_isinstance (by decide +kernel)) T.i_bool (.ty "bool") (pe_bltn rfl T.n_bool (by decide +kernel) rfl (by decide) (by decide)) rfl rfl rfl (pvE 0))))))
  ss_nil)
theorem t_is_name {P : Program} {pw : World} {K : PySem.W.Frag} {mg : Str → Option Value} {base : Heap} {n : Nat} {f : Addr} {E : Sem} (T : Txt K mg) (A : Oks P pw K mg base T n E) (cdv : Value) (A0 : Around) (outer : List Env) (s : Shared) (H : Hp) (Ex : XK) (hr : Room (2 * n + 1) (A0.deeper (PyProof.Rows.envOfC "is_name" (defScope s_is_name) s.heap.objs.size f cdv))) :
    PSs (cxOf CX0 P pw K mg base N_is_name "is_name" (defScope s_is_name) f cdv A0 outer s H Ex).nox (defBody s_is_name) (rdS T.w WF (v_is_name E)) := by
  have hr0 : Room (2 * n) (A0.deeper (PyProof.Rows.envOfC "is_name" (defScope s_is_name) s.heap.objs.size f cdv)) := hr.mono (by omega)
  exact (ss_cons (st_if (PW.pt (w_or (t_not (tV (e_isi rfl (bn_of rfl T.n_isinstance (by decide +kernel)) T.i_str (.ty "str") (pe_bltn rfl T.n_str (by decide +kernel) rfl (by decide) (by decide)) rfl rfl rfl (pvE 0)))) (w_or (t_not (tChain' ok_cmp ok_cmp op_le op_le e_int (e_bf1 (ok_len rfl) call_len (bn_of rfl T.n_len (by decide +kernel)) ⟨rfl, rfl⟩ (pvE 0)) (e_glob rfl T.c_LONGEST (by decide) T.r_LONGEST))) (w_or1 (tC' ok_inG (op_inA (cr_of hr rfl)) (pvE 0) (e_glob rfl T.c_KEPT (by decide) T.r_KEPT))))))
  (ss_cons (st_ret e_bl)
  ss_nil)
  ss_nil)
  (ss_cons (st_ret (e_bf1 (ok_all rfl) (cr_all rfl) (bn_of rfl T.n_all (by decide +kernel)) ⟨rfl, rfl⟩ (eLc [("sign", 1)] sc_is_name.nd (i_seq rfl (pvE 0)) (fun _ _ _ _ _ => (gNmE 1 (stoE sc_is_name.nd))) (fun _ _ _ _ _ => c_nil) (fun _ _ _ _ _ => (eC ok_inG (op_inA (cr_of hr rfl)) (pvE 1) (e_glob rfl T.c_LETTERS (by decide) T.r_LETTERS))) (ok := (blkOk_by (show blkC N_is_name (defScope s_is_name) _ [("sign", 1)] = true by decide +kernel))))))
  ss_nil))
theorem t_sized {P : Program} {pw : World} {K : PySem.W.Frag} {mg : Str → Option Value} {base : Heap} {n : Nat} {f : Addr} {E : Sem} (T : Txt K mg) (A : Oks P pw K mg base T n E) (cdv : Value) (A0 : Around) (outer : List Env) (s : Shared) (H : Hp) (Ex : XK) (hr : Room (2 * n + 1) (A0.deeper (PyProof.Rows.envOfC "sized" (defScope s_sized) s.heap.objs.size f cdv))) :
    PSs (cxOf CX0 P pw K mg base N_sized "sized" (defScope s_sized) f cdv A0 outer s H Ex).nox (defBody s_sized) (rdS T.w WF (v_sized E)) := by
  have hr0 : Room (2 * n) (A0.deeper (PyProof.Rows.envOfC "sized" (defScope s_sized) s.heap.objs.size f cdv)) := hr.mono (by omega)
  exact (ss_cons (st_if (PW.pt (w_or (tC' ok_cmp op_gt (pvE 1) (e_glob rfl T.c_MOST_PARTS (by decide) T.r_MOST_PARTS)) (w_or1 (tC' ok_cmp op_gt (pvE 2) (e_glob rfl T.c_DEEPEST (by decide) T.r_DEEPEST)))))
  (ss_cons st_bad
  ss_nil)
  ss_nil)
  (ss_cons (st_ret (e_tup (aC (pvE 0) (aC (e_op2 ok_mul op_mulA (e_tup (aC e_int a_nil)) (pvE 1)) (aC (pvE 2) a_nil)))))
  ss_nil))
theorem t_need_program {P : Program} {pw : World} {K : PySem.W.Frag} {mg : Str → Option Value} {base : Heap} {n : Nat} {f : Addr} {E : Sem} (T : Txt K mg) (A : Oks P pw K mg base T n E) (cdv : Value) (A0 : Around) (outer : List Env) (s : Shared) (H : Hp) (Ex : XK) (hr : Room (2 * n + 1) (A0.deeper (PyProof.Rows.envOfC "need_program" (defScope s_need_program) s.heap.objs.size f cdv))) :
    PSs (cxOf CX0 P pw K mg base N_need_program "need_program" (defScope s_need_program) f cdv A0 outer s H Ex).nox (defBody s_need_program) (rdS T.w WF (v_need_program E)) := by
  have hr0 : Room (2 * n) (A0.deeper (PyProof.Rows.envOfC "need_program" (defScope s_need_program) s.heap.objs.size f cdv)) := hr.mono (by omega)
  exact (ss_cons (st_if (t_not (tV (e_isi rfl (bn_of rfl T.n_isinstance (by decide +kernel)) T.i_Program (.own _) (pe_glob rfl T.g_Program rfl (by decide)) rfl rfl rfl (pvE 0))))
  (ss_cons st_bad
  ss_nil)
  ss_nil)
  ss_nil)
theorem t_need_name {P : Program} {pw : World} {K : PySem.W.Frag} {mg : Str → Option Value} {base : Heap} {n : Nat} {f : Addr} {E : Sem} (T : Txt K mg) (A : Oks P pw K mg base T n E) (cdv : Value) (A0 : Around) (outer : List Env) (s : Shared) (H : Hp) (Ex : XK) (hr : Room (2 * n + 1) (A0.deeper (PyProof.Rows.envOfC "need_name" (defScope s_need_name) s.heap.objs.size f cdv))) :
    PSs (cxOf CX0 P pw K mg base N_need_name "need_name" (defScope s_need_name) f cdv A0 outer s H Ex).nox (defBody s_need_name) (rdS T.w WF (v_need_name E)) := by
  have hr0 : Room (2 * n) (A0.deeper (PyProof.Rows.envOfC "need_name" (defScope s_need_name) s.heap.objs.size f cdv)) := hr.mono (by omega)
  exact (ss_cons (st_if (t_not (tV (e_call A.is_name hr0 rfl T.m_is_name T.k_is_name T.b_is_name .nil def_nil (by decide) rfl rfl (aC (pvE 0) a_nil))))
  (ss_cons st_bad
  ss_nil)
  ss_nil)
  ss_nil)
theorem t_parts_of {P : Program} {pw : World} {K : PySem.W.Frag} {mg : Str → Option Value} {base : Heap} {n : Nat} {f : Addr} {E : Sem} (T : Txt K mg) (A : Oks P pw K mg base T n E) (cdv : Value) (A0 : Around) (outer : List Env) (s : Shared) (H : Hp) (Ex : XK) (hr : Room (2 * n + 1) (A0.deeper (PyProof.Rows.envOfC "parts_of" (defScope s_parts_of) s.heap.objs.size f cdv))) :
    PSs (cxOf CX0 P pw K mg base N_parts_of "parts_of" (defScope s_parts_of) f cdv A0 outer s H Ex).nox (defBody s_parts_of) (rdS T.w WF (v_parts_of E)) := by
  have hr0 : Room (2 * n) (A0.deeper (PyProof.Rows.envOfC "parts_of" (defScope s_parts_of) s.heap.objs.size f cdv)) := hr.mono (by omega)
  exact (ss_cons (st_ret (e_if (tC' ok_eq (op_eqP (cr_of hr rfl)) (eIx (pvE 0) e_int) e_str) (eIx (pvE 0) e_int) (e_tup (aC (pvE 0) a_nil))))
  ss_nil)
theorem t_made_end {P : Program} {pw : World} {K : PySem.W.Frag} {mg : Str → Option Value} {base : Heap} {n : Nat} {f : Addr} {E : Sem} (T : Txt K mg) (A : Oks P pw K mg base T n E) (cdv : Value) (A0 : Around) (outer : List Env) (s : Shared) (H : Hp) (Ex : XK) (hr : Room (2 * n + 1) (A0.deeper (PyProof.Rows.envOfC "made_end" (defScope s_made_end) s.heap.objs.size f cdv))) :
    PSs (cxOf CX0 P pw K mg base N_made_end "made_end" (defScope s_made_end) f cdv A0 outer s H Ex).nox (defBody s_made_end) (rdS T.w WF (v_made_end E)) := by
  have hr0 : Room (2 * n) (A0.deeper (PyProof.Rows.envOfC "made_end" (defScope s_made_end) s.heap.objs.size f cdv)) := hr.mono (by omega)
  exact (ss_cons (st_if (tC' ok_eq (op_eqP (cr_of hr rfl)) (pvE 0) (e_tup (aC e_str a_nil)))
  (ss_cons (st_ret (e_make0 T.M_End A.i_End hr rfl T.g_End T.b_i_End .nil def_nil (by decide)))
  ss_nil)
  ss_nil)
  (ss_cons (st_if (PW.pt (w_or (tC' ok_ne (op_neP (cr_of hr rfl)) (e_bf1 (ok_len rfl) call_len (bn_of rfl T.n_len (by decide +kernel)) ⟨rfl, rfl⟩ (pvE 0)) e_int) (w_or1 (tC' ok_eq (op_eqP (cr_of hr rfl)) (eIx (pvE 0) e_int) e_str))))
  (ss_cons st_bad
  ss_nil)
  ss_nil)
  (ss_cons (st_if (tC' ok_eq (op_eqP (cr_of hr rfl)) (eIx (pvE 0) e_int) e_str)
  (ss_cons (st_ret (e_make T.M_Do A.i_Do hr rfl T.g_Do T.b_i_Do .nil def_nil (by decide) rfl rfl (aC (eIx (pvE 0) e_int) a_nil)))
  ss_nil)
  ss_nil)
  (ss_cons (st_ret (e_if (tC' ok_eq (op_eqP (cr_of hr rfl)) (eIx (pvE 0) e_int) e_str) (e_make T.M_Return A.i_Return hr rfl T.g_Return T.b_i_Return .nil def_nil (by decide) rfl rfl (aC (eIx (pvE 0) e_int) a_nil)) (e_make T.M_Go A.i_Go hr rfl T.g_Go T.b_i_Go .nil def_nil (by decide) rfl rfl (aC (eIx (pvE 0) e_int) a_nil))))
  ss_nil))))
theorem t_made {P : Program} {pw : World} {K : PySem.W.Frag} {mg : Str → Option Value} {base : Heap} {n : Nat} {f : Addr} {E : Sem} (T : Txt K mg) (A : Oks P pw K mg base T n E) (cdv : Value) (A0 : Around) (outer : List Env) (s : Shared) (H : Hp) (Ex : XK) (hr : Room (2 * n + 1) (A0.deeper (PyProof.Rows.envOfC "made" (defScope s_made) s.heap.objs.size f cdv))) :
    PSs (cxOf CX0 P pw K mg base N_made "made" (defScope s_made) f cdv A0 outer s H Ex).nox (defBody s_made) (rdS T.w WF (v_made E)) := by
  have hr0 : Room (2 * n) (A0.deeper (PyProof.Rows.envOfC "made" (defScope s_made) s.heap.objs.size f cdv)) := hr.mono (by omega)
  exact (ss_cons (st_if (PW.pt (w_or (t_not (tV (e_isi rfl (bn_of rfl T.n_isinstance (by decide +kernel)) T.i_tuple (.ty "tuple") (pe_bltn rfl T.n_tuple (by decide +kernel) rfl (by decide) (by decide)) rfl rfl rfl (pvE 0)))) (w_or (tC' ok_eq (op_eqP (cr_of hr rfl)) (pvE 0) (e_tup a_nil)) (w_or1 (t_not (tV (e_isi rfl (bn_of rfl T.n_isinstance (by decide +kernel)) T.i_str (.ty "str") (pe_bltn rfl T.n_str (by decide +kernel) rfl (by decide) (by decide)) rfl rfl rfl (eIx (pvE 0) e_int))))))))
  (ss_cons st_bad
  ss_nil)
  ss_nil)
  (ss_cons (stSet 1 sc_made.nd (eIx (pvE 0) e_int) (stoE sc_made.nd))
  (ss_cons (st_if (tC' ok_inG (op_inA (cr_of hr rfl)) (pvE 1) (e_tup (aC e_str (aC e_str (aC e_str (aC e_str a_nil))))))
  (ss_cons (st_ret (e_call A.made_end hr0 rfl T.m_made_end T.k_made_end T.b_made_end .nil def_nil (by decide) rfl rfl (aC (pvE 0) a_nil)))
  ss_nil)
  ss_nil)
  (ss_cons (st_if (PW.pt (w_and (tC' ok_eq (op_eqP (cr_of hr rfl)) (pvE 1) e_str) (w_and1 (tC' ok_eq (op_eqP (cr_of hr rfl)) (e_bf1 (ok_len rfl) call_len (bn_of rfl T.n_len (by decide +kernel)) ⟨rfl, rfl⟩ (pvE 0)) e_int))))
  (ss_cons (st_ret (e_make T.M_If A.i_If hr rfl T.g_If T.b_i_If .nil def_nil (by decide) rfl rfl (aC (eIx (pvE 0) e_int) (aC (e_call A.made hr0 rfl T.m_made T.k_made T.b_made .nil def_nil (by decide) rfl rfl (aC (eIx (pvE 0) e_int) a_nil)) (aC (e_call A.made hr0 rfl T.m_made T.k_made T.b_made .nil def_nil (by decide) rfl rfl (aC (eIx (pvE 0) e_int) a_nil)) a_nil)))))
  ss_nil)
  ss_nil)
  (ss_cons (st_if (PW.pt (w_and (tC' ok_eq (op_eqP (cr_of hr rfl)) (pvE 1) e_str) (w_and1 (tC' ok_eq (op_eqP (cr_of hr rfl)) (e_bf1 (ok_len rfl) call_len (bn_of rfl T.n_len (by decide +kernel)) ⟨rfl, rfl⟩ (pvE 0)) e_int))))
  (ss_cons (st_ret (e_make T.M_While A.i_While hr rfl T.g_While T.b_i_While .nil def_nil (by decide) rfl rfl (aC (eIx (pvE 0) e_int) (aC (e_call A.made hr0 rfl T.m_made T.k_made T.b_made .nil def_nil (by decide) rfl rfl (aC (eIx (pvE 0) e_int) a_nil)) (aC (eIx (pvE 0) e_int) a_nil)))))
  ss_nil)
  ss_nil)
  (ss_cons (st_if (PW.pt (w_or (tC' ok_ne (op_neP (cr_of hr rfl)) (e_bf1 (ok_len rfl) call_len (bn_of rfl T.n_len (by decide +kernel)) ⟨rfl, rfl⟩ (pvE 0)) e_int) (w_or1 (tC' ok_inG (op_notInA (cr_of hr rfl)) (pvE 1) (e_tup (aC e_str (aC e_str a_nil)))))))
  (ss_cons st_bad
  ss_nil)
  ss_nil)
  (ss_cons (st_if (tC' ok_eq (op_eqP (cr_of hr rfl)) (pvE 1) e_str)
  (ss_cons (st_ret (e_make T.M_Forever A.i_Forever hr rfl T.g_Forever T.b_i_Forever .nil def_nil (by decide) rfl rfl (aC (e_call A.made hr0 rfl T.m_made T.k_made T.b_made .nil def_nil (by decide) rfl rfl (aC (eIx (pvE 0) e_int) a_nil)) a_nil)))
  ss_nil)
  ss_nil)
  (ss_cons (st_if (t_not (tV (e_isi rfl (bn_of rfl T.n_isinstance (by decide +kernel)) T.i_tuple (.ty "tuple") (pe_bltn rfl T.n_tuple (by decide +kernel) rfl (by decide) (by decide)) rfl rfl rfl (eIx (pvE 0) e_int))))
  (ss_cons st_bad
  ss_nil)
  ss_nil)
  (ss_cons (stSet 2 sc_made.nd (e_new (e_lst a_nil)) (stoE sc_made.nd))
  (ss_cons (stFor (i_seq rfl (eIx (pvE 0) e_int)) (gNmE 3 (stoE sc_made.nd))
  (ss_cons (st_expr rfl (e_appO (pvE 2) (aC (e_call A.made hr0 rfl T.m_made T.k_made T.b_made .nil def_nil (by decide) rfl rfl (aC (pvE 3) a_nil)) a_nil) ⟨rfl, rfl, rfl, rfl, rfl⟩))
  ss_nil))
  (ss_cons (st_ret (e_make T.M_Row A.i_Row hr rfl T.g_Row T.b_i_Row .nil def_nil (by decide) rfl rfl (aC (e_bt1 (ok_tupOf rfl) call_tuple_of (bn_of rfl T.n_tuple (by decide +kernel)) ⟨rfl, rfl⟩ (pvE 2)) a_nil)))
  ss_nil)))))))))))
theorem t_L_begin {P : Program} {pw : World} {K : PySem.W.Frag} {mg : Str → Option Value} {base : Heap} {n : Nat} {f : Addr} {E : Sem} (T : Txt K mg) (A : Oks P pw K mg base T n E) (cdv : Value) (A0 : Around) (outer : List Env) (s : Shared) (H : Hp) (Ex : XK) (hr : Room (2 * n + 1) (A0.deeper (PyProof.Rows.envOfC "_law_begin" (defScope s_L_begin) s.heap.objs.size f cdv))) :
    PSs (cxOf CX0 P pw K mg base N_L_begin "_law_begin" (defScope s_L_begin) f cdv A0 outer s H Ex).nox (defBody s_L_begin) (rdS T.w WF (v_L_begin E)) := by
  have hr0 : Room (2 * n) (A0.deeper (PyProof.Rows.envOfC "_law_begin" (defScope s_L_begin) s.heap.objs.size f cdv)) := hr.mono (by omega)
  exact (ss_cons (stLc 1 [("_law_cell", 2)] sc_L_begin.nd (i_seq rfl (pvE 0)) (fun _ _ _ _ _ => (gNmE 2 (stoE sc_L_begin.nd))) (fun _ _ _ _ _ => c_nil) (fun _ _ _ _ _ => (e_bf1 ok_abs call_abs (bn_of rfl T.n_abs (by decide +kernel)) ⟨rfl, rfl⟩ (pvE 2))) (stoE sc_L_begin.nd) (ok := (blkOk_by (show blkC N_L_begin (defScope s_L_begin) _ [("_law_cell", 2)] = true by decide +kernel))))
  (ss_cons (st_ret (e_new (e_dict rfl rfl (by intro q; cases q) (by decide) (d_cons e_str (e_new (eLc [("_law_cell", 2)] sc_L_begin.nd (i_seq rfl (pvE 1)) (fun _ _ _ _ _ => (gNmE 2 (stoE sc_L_begin.nd))) (fun _ _ _ _ _ => (c_one (tC' ok_cmp op_ge (pvE 2) (e_op2 ok_II op_powC e_int e_int)))) (fun _ _ _ _ _ => (e_op2 ok_II op_subC (pvE 2) (e_op2 ok_II op_powC e_int e_int))) (ok := (blkOk_by (show blkC N_L_begin (defScope s_L_begin) _ [("_law_cell", 2)] = true by decide +kernel))))) (d_cons e_str (pvE 1) (d_cons e_str e_int (d_cons e_str e_int d_nil)))))))
  ss_nil))
theorem t_L_draw {P : Program} {pw : World} {K : PySem.W.Frag} {mg : Str → Option Value} {base : Heap} {n : Nat} {f : Addr} {E : Sem} (T : Txt K mg) (A : Oks P pw K mg base T n E) (cdv : Value) (A0 : Around) (outer : List Env) (s : Shared) (H : Hp) (Ex : XK) (hr : Room (2 * n + 1) (A0.deeper (PyProof.Rows.envOfC "_law_draw" (defScope s_L_draw) s.heap.objs.size f cdv))) :
    PSs (cxOf CX0 P pw K mg base N_L_draw "_law_draw" (defScope s_L_draw) f cdv A0 outer s H Ex).nox (defBody s_L_draw) (rdS T.w WF (v_L_draw E)) := by
  have hr0 : Room (2 * n) (A0.deeper (PyProof.Rows.envOfC "_law_draw" (defScope s_L_draw) s.heap.objs.size f cdv)) := hr.mono (by omega)
  exact (ss_cons (stWhile (PW.pt (w_and (tC' ok_eq (op_eqP (cr_of hr rfl)) (eDg (units_of hr) (pvE 0) e_str) e_int) (w_and1 (tC' ok_ne (op_neP (cr_of hr rfl)) (eDg (units_of hr) (pvE 0) e_str) (e_lst a_nil)))))
  (ss_cons (st_put (units_of hr) rfl (pvE 0) e_str (e_popO (eDg (units_of hr) (pvE 0) e_str) (aC e_int a_nil) ⟨rfl, rfl, rfl, rfl, rfl⟩))
  ss_nil))
  (ss_cons (st_if (tC' ok_cmp op_gt (eDg (units_of hr) (pvE 0) e_str) e_int)
  (ss_cons (stSet 2 sc_L_draw.nd (e_op2 ok_II op_modC (e_bt1 ok_int call_int1 (bn_of rfl T.n_int (by decide +kernel)) ⟨rfl, rfl⟩ (eDg (units_of hr) (pvE 0) e_str)) (pvE 1)) (stoE sc_L_draw.nd))
  (ss_cons (st_put (units_of hr) rfl (pvE 0) e_str (e_op2 ok_II op_fdivC (eDg (units_of hr) (pvE 0) e_str) (pvE 1)))
  (ss_cons (st_ret (pvE 2))
  ss_nil)))
  ss_nil)
  (ss_cons (stSet 3 sc_L_draw.nd (e_op2 ok_add op_addA (eDg (units_of hr) (pvE 0) e_str) e_int) (stoE sc_L_draw.nd))
  (ss_cons (st_put (units_of hr) rfl (pvE 0) e_str (pvE 3))
  (ss_cons (stSet 4 sc_L_draw.nd (e_if (tC' ok_ne (op_neP (cr_of hr rfl)) (eDg (units_of hr) (pvE 0) e_str) (e_lst a_nil)) (eIx (eDg (units_of hr) (pvE 0) e_str) (e_op2 ok_II op_modC (e_bt1 ok_int call_int1 (bn_of rfl T.n_int (by decide +kernel)) ⟨rfl, rfl⟩ (pvE 3)) (e_bf1 (ok_len rfl) call_len (bn_of rfl T.n_len (by decide +kernel)) ⟨rfl, rfl⟩ (eDg (units_of hr) (pvE 0) e_str)))) e_int) (stoE sc_L_draw.nd))
  (ss_cons (stSet 5 sc_L_draw.nd (e_op2 ok_II op_modC (e_bt1 ok_int call_int1 (bn_of rfl T.n_int (by decide +kernel)) ⟨rfl, rfl⟩ (e_op2 ok_II op_powC (e_op2 ok_add op_addA (e_op2 ok_add op_addA (e_op2 ok_II op_modC (e_bt1 ok_int call_int1 (bn_of rfl T.n_int (by decide +kernel)) ⟨rfl, rfl⟩ (pvE 4)) e_int) (e_op2 ok_mul op_mulA e_int (pvE 3))) e_int) e_int)) e_int) (stoE sc_L_draw.nd))
  (ss_cons (st_ret (e_op2 ok_II op_modC (e_bt1 ok_int call_int1 (bn_of rfl T.n_int (by decide +kernel)) ⟨rfl, rfl⟩ (e_op2 ok_II op_fdivC (e_op2 ok_II op_modC (e_bt1 ok_int call_int1 (bn_of rfl T.n_int (by decide +kernel)) ⟨rfl, rfl⟩ (e_op2 ok_II op_powC (e_op2 ok_add op_addA (pvE 5) (e_op2 ok_mul op_mulA e_int (pvE 3))) e_int)) e_int) e_int)) (pvE 1)))
  ss_nil)))))))
theorem t_L_pick {P : Program} {pw : World} {K : PySem.W.Frag} {mg : Str → Option Value} {base : Heap} {n : Nat} {f : Addr} {E : Sem} (T : Txt K mg) (A : Oks P pw K mg base T n E) (cdv : Value) (A0 : Around) (outer : List Env) (s : Shared) (H : Hp) (Ex : XK) (hr : Room (2 * n + 1) (A0.deeper (PyProof.Rows.envOfC "_law_pick" (defScope s_L_pick) s.heap.objs.size f cdv))) :
    PSs (cxOf CX0 P pw K mg base N_L_pick "_law_pick" (defScope s_L_pick) f cdv A0 outer s H Ex).nox (defBody s_L_pick) (rdS T.w WF (v_L_pick E)) := by
  have hr0 : Room (2 * n) (A0.deeper (PyProof.Rows.envOfC "_law_pick" (defScope s_L_pick) s.heap.objs.size f cdv)) := hr.mono (by omega)
  exact (ss_cons (st_ret (eIx (pvE 1) (e_call A.L_draw hr0 rfl T.m_L_draw T.k_L_draw T.b_L_draw .nil def_nil (by decide) rfl rfl (aC (pvE 0) (aC (e_bf1 (ok_len rfl) call_len (bn_of rfl T.n_len (by decide +kernel)) ⟨rfl, rfl⟩ (pvE 1)) a_nil)))))
  ss_nil)
theorem t_L_rounds {P : Program} {pw : World} {K : PySem.W.Frag} {mg : Str → Option Value} {base : Heap} {n : Nat} {f : Addr} {E : Sem} (T : Txt K mg) (A : Oks P pw K mg base T n E) (cdv : Value) (A0 : Around) (outer : List Env) (s : Shared) (H : Hp) (Ex : XK) (hr : Room (2 * n + 1) (A0.deeper (PyProof.Rows.envOfC "_law_rounds" (defScope s_L_rounds) s.heap.objs.size f cdv))) :
    PSs (cxOf CX0 P pw K mg base N_L_rounds "_law_rounds" (defScope s_L_rounds) f cdv A0 outer s H Ex).nox (defBody s_L_rounds) (rdS T.w WF (v_L_rounds E)) := by
  have hr0 : Room (2 * n) (A0.deeper (PyProof.Rows.envOfC "_law_rounds" (defScope s_L_rounds) s.heap.objs.size f cdv)) := hr.mono (by omega)
  exact (ss_cons (st_ret (e_op2 ok_add op_addA (pvE 1) (e_bf2 ok_min2 (call_min2 rfl) (bn_of rfl T.n_min (by decide +kernel)) ⟨rfl, rfl, rfl⟩ (e_op2 ok_II op_subC (pvE 2) (pvE 1)) (e_bf1 (ok_len rfl) call_len (bn_of rfl T.n_len (by decide +kernel)) ⟨rfl, rfl⟩ (pvE 0)))))
  ss_nil)
theorem t_L_kept {P : Program} {pw : World} {K : PySem.W.Frag} {mg : Str → Option Value} {base : Heap} {n : Nat} {f : Addr} {E : Sem} (T : Txt K mg) (A : Oks P pw K mg base T n E) (cdv : Value) (A0 : Around) (outer : List Env) (s : Shared) (H : Hp) (Ex : XK) (hr : Room (2 * n + 1) (A0.deeper (PyProof.Rows.envOfC "_law_kept" (defScope s_L_kept) s.heap.objs.size f cdv))) :
    PSs (cxOf CX0 P pw K mg base N_L_kept "_law_kept" (defScope s_L_kept) f cdv A0 outer s H Ex).nox (defBody s_L_kept) (rdS T.w WF (v_L_kept E)) := by
  have hr0 : Room (2 * n) (A0.deeper (PyProof.Rows.envOfC "_law_kept" (defScope s_L_kept) s.heap.objs.size f cdv)) := hr.mono (by omega)
  exact (ss_cons (st_ret (e_lst (aC e_str (aC e_str (aC e_str (aC e_str (aC e_str (aC e_str (aC e_str (aC e_str (aC e_str (aC e_str (aC e_str (aC e_str a_nil))))))))))))))
  ss_nil)
theorem t_L_name {P : Program} {pw : World} {K : PySem.W.Frag} {mg : Str → Option Value} {base : Heap} {n : Nat} {f : Addr} {E : Sem} (T : Txt K mg) (A : Oks P pw K mg base T n E) (cdv : Value) (A0 : Around) (outer : List Env) (s : Shared) (H : Hp) (Ex : XK) (hr : Room (2 * n + 1) (A0.deeper (PyProof.Rows.envOfC "_law_name" (defScope s_L_name) s.heap.objs.size f cdv))) :
    PSs (cxOf CX0 P pw K mg base N_L_name "_law_name" (defScope s_L_name) f cdv A0 outer s H Ex).nox (defBody s_L_name) (rdS T.w WF (v_L_name E)) := by
  have hr0 : Room (2 * n) (A0.deeper (PyProof.Rows.envOfC "_law_name" (defScope s_L_name) s.heap.objs.size f cdv)) := hr.mono (by omega)
  exact (ss_cons (stSet 1 sc_L_name.nd (e_call A.L_draw hr0 rfl T.m_L_draw T.k_L_draw T.b_L_draw .nil def_nil (by decide) rfl rfl (aC (pvE 0) (aC e_int a_nil))) (stoE sc_L_name.nd))
  (ss_cons (st_if (tC' ok_lt op_ltA (pvE 1) e_int)
  (ss_cons (st_ret (e_call A.L_pick hr0 rfl T.m_L_pick T.k_L_pick T.b_L_pick .nil def_nil (by decide) rfl rfl (aC (pvE 0) (aC (e_lst (aC e_str (aC e_str (aC e_str (aC e_str a_nil))))) a_nil))))
  ss_nil)
  ss_nil)
  (ss_cons (st_if (tC' ok_eq (op_eqP (cr_of hr rfl)) (pvE 1) e_int)
  (ss_cons (stSet 2 sc_L_name.nd (e_lst (aC e_str (aC e_str (aC e_str (aC e_str (aC e_str (aC e_str (aC e_str (aC e_str (aC e_str (aC e_str (aC e_str (aC e_str a_nil))))))))))))) (stoE sc_L_name.nd))
  (ss_cons (st_ret (e_call A.L_pick hr0 rfl T.m_L_pick T.k_L_pick T.b_L_pick .nil def_nil (by decide) rfl rfl (aC (pvE 0) (aC (pvE 2) a_nil))))
  ss_nil))
  ss_nil)
  (ss_cons (stSet 3 sc_L_name.nd e_str (stoE sc_L_name.nd))
  (ss_cons (stSet 4 sc_L_name.nd (e_join rfl rfl rfl rfl e_str (eLc [("_law_k", 5)] sc_L_name.nd (i_rng1 (bn_of rfl T.n_range (by decide +kernel)) rfl (aC (e_op2 ok_add op_addA e_int (e_call A.L_draw hr0 rfl T.m_L_draw T.k_L_draw T.b_L_draw .nil def_nil (by decide) rfl rfl (aC (pvE 0) (aC e_int a_nil)))) a_nil)) (fun _ _ _ _ _ => (gNmE 5 (stoE sc_L_name.nd))) (fun _ _ _ _ _ => c_nil) (fun _ _ _ _ _ => (e_call A.L_pick hr0 rfl T.m_L_pick T.k_L_pick T.b_L_pick .nil def_nil (by decide) rfl rfl (aC (pvE 0) (aC (pvE 3) a_nil)))) (ok := (blkOk_by (show blkC N_L_name (defScope s_L_name) _ [("_law_k", 5)] = true by decide +kernel))))) (stoE sc_L_name.nd))
  (ss_cons (st_ret (e_if (tC' ok_inG (op_inA (cr_of hr rfl)) (pvE 4) (e_call0 A.L_kept hr0 rfl T.m_L_kept T.k_L_kept T.b_L_kept .nil def_nil (by decide))) (e_op2 ok_add op_addA (pvE 4) e_str) (pvE 4)))
  ss_nil))))))
theorem t_L_kit {P : Program} {pw : World} {K : PySem.W.Frag} {mg : Str → Option Value} {base : Heap} {n : Nat} {f : Addr} {E : Sem} (T : Txt K mg) (A : Oks P pw K mg base T n E) (cdv : Value) (A0 : Around) (outer : List Env) (s : Shared) (H : Hp) (Ex : XK) (hr : Room (2 * n + 1) (A0.deeper (PyProof.Rows.envOfC "_law_kit" (defScope s_L_kit) s.heap.objs.size f cdv))) :
    PSs (cxOf CX0 P pw K mg base N_L_kit "_law_kit" (defScope s_L_kit) f cdv A0 outer s H Ex).nox (defBody s_L_kit) (rdS T.w WF (v_L_kit E)) := by
  have hr0 : Room (2 * n) (A0.deeper (PyProof.Rows.envOfC "_law_kit" (defScope s_L_kit) s.heap.objs.size f cdv)) := hr.mono (by omega)
  exact (ss_cons (stLc 3 [("_law_k", 4)] sc_L_kit.nd (i_rng1 (bn_of rfl T.n_range (by decide +kernel)) rfl (aC (e_op2 ok_add op_addA e_int (e_call A.L_draw hr0 rfl T.m_L_draw T.k_L_draw T.b_L_draw .nil def_nil (by decide) rfl rfl (aC (pvE 0) (aC e_int a_nil)))) a_nil)) (fun _ _ _ _ _ => (gNmE 4 (stoE sc_L_kit.nd))) (fun _ _ _ _ _ => c_nil) (fun _ _ _ _ _ => (e_call A.L_name hr0 rfl T.m_L_name T.k_L_name T.b_L_name .nil def_nil (by decide) rfl rfl (aC (pvE 0) a_nil))) (stoE sc_L_kit.nd) (ok := (blkOk_by (show blkC N_L_kit (defScope s_L_kit) _ [("_law_k", 4)] = true by decide +kernel))))
  (ss_cons (st_ret (e_new (e_dict rfl rfl (by intro q; cases q) (by decide) (d_cons e_str (pvE 3) (d_cons e_str (pvE 1) (d_cons e_str (e_bt1 (ok_lstOf rfl) call_list_of (bn_of rfl T.n_list (by decide +kernel)) ⟨rfl, rfl⟩ (pvE 2)) d_nil))))))
  ss_nil))
theorem t_L_last {P : Program} {pw : World} {K : PySem.W.Frag} {mg : Str → Option Value} {base : Heap} {n : Nat} {f : Addr} {E : Sem} (T : Txt K mg) (A : Oks P pw K mg base T n E) (cdv : Value) (A0 : Around) (outer : List Env) (s : Shared) (H : Hp) (Ex : XK) (hr : Room (2 * n + 1) (A0.deeper (PyProof.Rows.envOfC "_law_last" (defScope s_L_last) s.heap.objs.size f cdv))) :
    PSs (cxOf CX0 P pw K mg base N_L_last "_law_last" (defScope s_L_last) f cdv A0 outer s H Ex).nox (defBody s_L_last) (rdS T.w WF (v_L_last E)) := by
  have hr0 : Room (2 * n) (A0.deeper (PyProof.Rows.envOfC "_law_last" (defScope s_L_last) s.heap.objs.size f cdv)) := hr.mono (by omega)
  exact (ss_cons (stSet 2 sc_L_last.nd (e_call A.L_pick hr0 rfl T.m_L_pick T.k_L_pick T.b_L_pick .nil def_nil (by decide) rfl rfl (aC (pvE 0) (aC (eDg (units_of hr) (pvE 1) e_str) a_nil))) (stoE sc_L_last.nd))
  (ss_cons (stSet 3 sc_L_last.nd (e_if (tC' ok_ne (op_neP (cr_of hr rfl)) (eDg (units_of hr) (pvE 1) e_str) (e_lst a_nil)) (e_lst (aC (e_tup (aC e_str (aC (e_call A.L_pick hr0 rfl T.m_L_pick T.k_L_pick T.b_L_pick .nil def_nil (by decide) rfl rfl (aC (pvE 0) (aC (eDg (units_of hr) (pvE 1) e_str) a_nil))) a_nil))) a_nil)) (e_lst a_nil)) (stoE sc_L_last.nd))
  (ss_cons (st_ret (e_call A.L_pick hr0 rfl T.m_L_pick T.k_L_pick T.b_L_pick .nil def_nil (by decide) rfl rfl (aC (pvE 0) (aC (e_op2 ok_add op_addA (e_op2 ok_add op_addA (e_op2 ok_mul op_mulA (e_lst (aC (e_tup (aC e_str (aC (pvE 2) a_nil))) a_nil)) e_int) (e_lst (aC (e_tup (aC e_str (aC (pvE 2) a_nil))) (aC (e_tup (aC e_str a_nil)) a_nil)))) (e_op2 ok_mul op_mulA (pvE 3) e_int)) a_nil))))
  ss_nil)))
theorem t_L_part {P : Program} {pw : World} {K : PySem.W.Frag} {mg : Str → Option Value} {base : Heap} {n : Nat} {f : Addr} {E : Sem} (T : Txt K mg) (A : Oks P pw K mg base T n E) (cdv : Value) (A0 : Around) (outer : List Env) (s : Shared) (H : Hp) (Ex : XK) (hr : Room (2 * n + 1) (A0.deeper (PyProof.Rows.envOfC "_law_part" (defScope s_L_part) s.heap.objs.size f cdv))) :
    PSs (cxOf CX0 P pw K mg base N_L_part "_law_part" (defScope s_L_part) f cdv A0 outer s H Ex).nox (defBody s_L_part) (rdS T.w WF (v_L_part E)) := by
  have hr0 : Room (2 * n) (A0.deeper (PyProof.Rows.envOfC "_law_part" (defScope s_L_part) s.heap.objs.size f cdv)) := hr.mono (by omega)
  exact (ss_cons (st_put (units_of hr) rfl (pvE 2) e_str (e_op2 ok_II op_subC (eDg (units_of hr) (pvE 2) e_str) e_int))
  (ss_cons (st_par rfl (stoE sc_L_part.nd) (stoE sc_L_part.nd) (by decide) rfl rfl rfl rfl (aC (e_call A.L_draw hr0 rfl T.m_L_draw T.k_L_draw T.b_L_draw .nil def_nil (by decide) rfl rfl (aC (pvE 0) (aC e_int a_nil))) (aC (e_call A.L_pick hr0 rfl T.m_L_pick T.k_L_pick T.b_L_pick .nil def_nil (by decide) rfl rfl (aC (pvE 0) (aC (eDg (units_of hr) (pvE 2) e_str) a_nil))) a_nil)))
  (ss_cons (st_if (PW.pt (w_or (tC' ok_lt op_ltA (pvE 1) e_int) (w_or (tC' ok_lt op_ltA (eDg (units_of hr) (pvE 2) e_str) e_int) (w_or1 (tC' ok_lt op_ltA (pvE 3) e_int)))))
  (ss_cons (st_ret (e_call A.L_last hr0 rfl T.m_L_last T.k_L_last T.b_L_last .nil def_nil (by decide) rfl rfl (aC (pvE 0) (aC (pvE 2) a_nil))))
  ss_nil)
  ss_nil)
  (ss_cons (st_if (tC' ok_lt op_ltA (pvE 3) e_int)
  (ss_cons (stSet 5 sc_L_part.nd (e_call A.L_told hr0 rfl T.m_L_told T.k_L_told T.b_L_told .nil def_nil (by decide) rfl rfl (aC (pvE 0) (aC (e_op2 ok_II op_subC (pvE 1) e_int) (aC (pvE 2) a_nil)))) (stoE sc_L_part.nd))
  (ss_cons (st_ret (e_tup (aC e_str (aC (pvE 4) (aC (pvE 5) (aC (e_call A.L_told hr0 rfl T.m_L_told T.k_L_told T.b_L_told .nil def_nil (by decide) rfl rfl (aC (pvE 0) (aC (e_op2 ok_II op_subC (pvE 1) e_int) (aC (pvE 2) a_nil)))) a_nil))))))
  ss_nil))
  ss_nil)
  (ss_cons (stSet 6 sc_L_part.nd (e_call A.L_told hr0 rfl T.m_L_told T.k_L_told T.b_L_told .nil def_nil (by decide) rfl rfl (aC (pvE 0) (aC (e_op2 ok_II op_subC (pvE 1) e_int) (aC (pvE 2) a_nil)))) (stoE sc_L_part.nd))
  (ss_cons (st_if (tC' ok_lt op_ltA (pvE 3) e_int)
  (ss_cons (st_ret (e_tup (aC e_str (aC (pvE 4) (aC (eC ok_cmp op_gt (e_call A.L_draw hr0 rfl T.m_L_draw T.k_L_draw T.b_L_draw .nil def_nil (by decide) rfl rfl (aC (pvE 0) (aC e_int a_nil))) e_int) (aC (pvE 6) a_nil))))))
  ss_nil)
  ss_nil)
  (ss_cons (st_ret (e_tup (aC e_str (aC (e_if (tC' ok_ne (op_neP (cr_of hr rfl)) (pvE 6) (e_tup (aC e_str (aC (e_tup a_nil) a_nil)))) (pvE 6) (e_call A.L_last hr0 rfl T.m_L_last T.k_L_last T.b_L_last .nil def_nil (by decide) rfl rfl (aC (pvE 0) (aC (pvE 2) a_nil)))) a_nil))))
  ss_nil)))))))
theorem t_L_told {P : Program} {pw : World} {K : PySem.W.Frag} {mg : Str → Option Value} {base : Heap} {n : Nat} {f : Addr} {E : Sem} (T : Txt K mg) (A : Oks P pw K mg base T n E) (cdv : Value) (A0 : Around) (outer : List Env) (s : Shared) (H : Hp) (Ex : XK) (hr : Room (2 * n + 1) (A0.deeper (PyProof.Rows.envOfC "_law_told" (defScope s_L_told) s.heap.objs.size f cdv))) :
    PSs (cxOf CX0 P pw K mg base N_L_told "_law_told" (defScope s_L_told) f cdv A0 outer s H Ex).nox (defBody s_L_told) (rdS T.w WF (v_L_told E)) := by
  have hr0 : Room (2 * n) (A0.deeper (PyProof.Rows.envOfC "_law_told" (defScope s_L_told) s.heap.objs.size f cdv)) := hr.mono (by omega)
  exact (ss_cons (stSet 3 sc_L_told.nd (e_call A.L_pick hr0 rfl T.m_L_pick T.k_L_pick T.b_L_pick .nil def_nil (by decide) rfl rfl (aC (pvE 0) (aC (e_lst (aC e_int (aC e_int (aC e_int (aC e_int (aC e_int (aC e_int (aC e_int a_nil)))))))) a_nil))) (stoE sc_L_told.nd))
  (ss_cons (stLc 4 [("_law_k", 5)] sc_L_told.nd (i_rng1 (bn_of rfl T.n_range (by decide +kernel)) rfl (aC (pvE 3) a_nil)) (fun _ _ _ _ _ => (gNmE 5 (stoE sc_L_told.nd))) (fun _ _ _ _ _ => c_nil) (fun _ _ _ _ _ => (e_call A.L_part hr0 rfl T.m_L_part T.k_L_part T.b_L_part .nil def_nil (by decide) rfl rfl (aC (pvE 0) (aC (pvE 1) (aC (pvE 2) a_nil))))) (stoE sc_L_told.nd) (ok := (blkOk_by (show blkC N_L_told (defScope s_L_told) _ [("_law_k", 5)] = true by decide +kernel))))
  (ss_cons (st_ret (e_if (tC' ok_eq (op_eqP (cr_of hr rfl)) (e_bf1 (ok_len rfl) call_len (bn_of rfl T.n_len (by decide +kernel)) ⟨rfl, rfl⟩ (pvE 4)) e_int) (eIx (pvE 4) e_int) (e_tup (aC e_str (aC (e_bt1 (ok_tupOf rfl) call_tuple_of (bn_of rfl T.n_tuple (by decide +kernel)) ⟨rfl, rfl⟩ (pvE 4)) a_nil)))))
  ss_nil)))
theorem t_L_insides {P : Program} {pw : World} {K : PySem.W.Frag} {mg : Str → Option Value} {base : Heap} {n : Nat} {f : Addr} {E : Sem} (T : Txt K mg) (A : Oks P pw K mg base T n E) (cdv : Value) (A0 : Around) (outer : List Env) (s : Shared) (H : Hp) (Ex : XK) (hr : Room (2 * n + 1) (A0.deeper (PyProof.Rows.envOfC "_law_insides" (defScope s_L_insides) s.heap.objs.size f cdv))) :
    PSs (cxOf CX0 P pw K mg base N_L_insides "_law_insides" (defScope s_L_insides) f cdv A0 outer s H Ex).nox (defBody s_L_insides) (rdS T.w WF (v_L_insides E)) := by
  have hr0 : Room (2 * n) (A0.deeper (PyProof.Rows.envOfC "_law_insides" (defScope s_L_insides) s.heap.objs.size f cdv)) := hr.mono (by omega)
  exact (ss_cons (stSet 1 sc_L_insides.nd (eIx (pvE 0) e_int) (stoE sc_L_insides.nd))
  (ss_cons (st_if (tC' ok_eq (op_eqP (cr_of hr rfl)) (pvE 1) e_str)
  (ss_cons (st_ret (e_bt1 (ok_lstOf rfl) call_list_of (bn_of rfl T.n_list (by decide +kernel)) ⟨rfl, rfl⟩ (eIx (pvE 0) e_int)))
  ss_nil)
  ss_nil)
  (ss_cons (st_ret (e_bt1 (ok_lstOf rfl) call_list_of (bn_of rfl T.n_list (by decide +kernel)) ⟨rfl, rfl⟩ (e_sl rfl (pvE 0) (o_some (e_get2 (units_of hr) ⟨rfl, rfl, rfl, rfl⟩ (e_dict rfl rfl (by intro q; cases q) (by decide) (d_cons e_str e_int (d_cons e_str e_int (d_cons e_str e_int d_nil)))) (pvE 1) (e_bf1 (ok_len rfl) call_len (bn_of rfl T.n_len (by decide +kernel)) ⟨rfl, rfl⟩ (pvE 0)))) o_none)))
  ss_nil)))
theorem t_L_many {P : Program} {pw : World} {K : PySem.W.Frag} {mg : Str → Option Value} {base : Heap} {n : Nat} {f : Addr} {E : Sem} (T : Txt K mg) (A : Oks P pw K mg base T n E) (cdv : Value) (A0 : Around) (outer : List Env) (s : Shared) (H : Hp) (Ex : XK) (hr : Room (2 * n + 1) (A0.deeper (PyProof.Rows.envOfC "_law_many" (defScope s_L_many) s.heap.objs.size f cdv))) :
    PSs (cxOf CX0 P pw K mg base N_L_many "_law_many" (defScope s_L_many) f cdv A0 outer s H Ex).nox (defBody s_L_many) (rdS T.w WF (v_L_many E)) := by
  have hr0 : Room (2 * n) (A0.deeper (PyProof.Rows.envOfC "_law_many" (defScope s_L_many) s.heap.objs.size f cdv)) := hr.mono (by omega)
  exact (ss_cons (st_ret (e_op2 ok_add op_addA e_int (e_bf1 (ok_sum rfl) (cr_sum rfl) (bn_of rfl T.n_sum (by decide +kernel)) ⟨rfl, rfl⟩ (eLc [("_law_part_here", 1)] sc_L_many.nd (i_seq rfl (e_call A.L_insides hr0 rfl T.m_L_insides T.k_L_insides T.b_L_insides .nil def_nil (by decide) rfl rfl (aC (pvE 0) a_nil))) (fun _ _ _ _ _ => (gNmE 1 (stoE sc_L_many.nd))) (fun _ _ _ _ _ => c_nil) (fun _ _ _ _ _ => (e_call A.L_many hr0 rfl T.m_L_many T.k_L_many T.b_L_many .nil def_nil (by decide) rfl rfl (aC (pvE 1) a_nil))) (ok := (blkOk_by (show blkC N_L_many (defScope s_L_many) _ [("_law_part_here", 1)] = true by decide +kernel)))))))
  ss_nil)
theorem t_L_joined {P : Program} {pw : World} {K : PySem.W.Frag} {mg : Str → Option Value} {base : Heap} {n : Nat} {f : Addr} {E : Sem} (T : Txt K mg) (A : Oks P pw K mg base T n E) (cdv : Value) (A0 : Around) (outer : List Env) (s : Shared) (H : Hp) (Ex : XK) (hr : Room (2 * n + 1) (A0.deeper (PyProof.Rows.envOfC "_law_joined" (defScope s_L_joined) s.heap.objs.size f cdv))) :
    PSs (cxOf CX0 P pw K mg base N_L_joined "_law_joined" (defScope s_L_joined) f cdv A0 outer s H Ex).nox (defBody s_L_joined) (rdS T.w WF (v_L_joined E)) := by
  have hr0 : Room (2 * n) (A0.deeper (PyProof.Rows.envOfC "_law_joined" (defScope s_L_joined) s.heap.objs.size f cdv)) := hr.mono (by omega)
  exact (ss_cons (stSet 1 sc_L_joined.nd (e_lst a_nil) (stoE sc_L_joined.nd))
  (ss_cons (stFor (i_seq rfl (pvE 0)) (gNmE 2 (stoE sc_L_joined.nd))
  (ss_cons (stSet 1 sc_L_joined.nd (e_op2 ok_add op_addA (pvE 1) (e_if (tC' ok_eq (op_eqP (cr_of hr rfl)) (eIx (pvE 2) e_int) e_str) (e_bt1 (ok_lstOf rfl) call_list_of (bn_of rfl T.n_list (by decide +kernel)) ⟨rfl, rfl⟩ (eIx (pvE 2) e_int)) (e_lst (aC (pvE 2) a_nil)))) (stoE sc_L_joined.nd))
  ss_nil))
  (ss_cons (st_ret (e_if (tC' ok_eq (op_eqP (cr_of hr rfl)) (e_bf1 (ok_len rfl) call_len (bn_of rfl T.n_len (by decide +kernel)) ⟨rfl, rfl⟩ (pvE 1)) e_int) (eIx (pvE 1) e_int) (e_tup (aC e_str (aC (e_bt1 (ok_tupOf rfl) call_tuple_of (bn_of rfl T.n_tuple (by decide +kernel)) ⟨rfl, rfl⟩ (pvE 1)) a_nil)))))
  ss_nil)))
theorem t_L_built {P : Program} {pw : World} {K : PySem.W.Frag} {mg : Str → Option Value} {base : Heap} {n : Nat} {f : Addr} {E : Sem} (T : Txt K mg) (A : Oks P pw K mg base T n E) (cdv : Value) (A0 : Around) (outer : List Env) (s : Shared) (H : Hp) (Ex : XK) (hr : Room (2 * n + 1) (A0.deeper (PyProof.Rows.envOfC "_law_built" (defScope s_L_built) s.heap.objs.size f cdv))) :
    PSs (cxOf CX0 P pw K mg base N_L_built "_law_built" (defScope s_L_built) f cdv A0 outer s H Ex).nox (defBody s_L_built) (rdS T.w WF (v_L_built E)) := by
  have hr0 : Room (2 * n) (A0.deeper (PyProof.Rows.envOfC "_law_built" (defScope s_L_built) s.heap.objs.size f cdv)) := hr.mono (by omega)
  exact (ss_cons (stSet 1 sc_L_built.nd (eIx (pvE 0) e_int) (stoE sc_L_built.nd))
  (ss_cons (st_if (tC' ok_eq (op_eqP (cr_of hr rfl)) (pvE 1) e_str)
  (ss_cons (st_ret (e_make T.M_Do A.i_Do hr rfl T.g_Do T.b_i_Do .nil def_nil (by decide) rfl rfl (aC (eIx (pvE 0) e_int) a_nil)))
  ss_nil)
  ss_nil)
  (ss_cons (st_if (tC' ok_eq (op_eqP (cr_of hr rfl)) (pvE 1) e_str)
  (ss_cons (st_ret (e_make T.M_Return A.i_Return hr rfl T.g_Return T.b_i_Return .nil def_nil (by decide) rfl rfl (aC (eIx (pvE 0) e_int) a_nil)))
  ss_nil)
  ss_nil)
  (ss_cons (st_if (tC' ok_eq (op_eqP (cr_of hr rfl)) (pvE 1) e_str)
  (ss_cons (st_ret (e_make T.M_Go A.i_Go hr rfl T.g_Go T.b_i_Go .nil def_nil (by decide) rfl rfl (aC (eIx (pvE 0) e_int) a_nil)))
  ss_nil)
  ss_nil)
  (ss_cons (st_if (tC' ok_eq (op_eqP (cr_of hr rfl)) (pvE 1) e_str)
  (ss_cons (st_ret (e_make0 T.M_End A.i_End hr rfl T.g_End T.b_i_End .nil def_nil (by decide)))
  ss_nil)
  ss_nil)
  (ss_cons (st_if (tC' ok_eq (op_eqP (cr_of hr rfl)) (pvE 1) e_str)
  (ss_cons (st_ret (e_make T.M_If A.i_If hr rfl T.g_If T.b_i_If .nil def_nil (by decide) rfl rfl (aC (eIx (pvE 0) e_int) (aC (e_call A.L_built hr0 rfl T.m_L_built T.k_L_built T.b_L_built .nil def_nil (by decide) rfl rfl (aC (eIx (pvE 0) e_int) a_nil)) (aC (e_call A.L_built hr0 rfl T.m_L_built T.k_L_built T.b_L_built .nil def_nil (by decide) rfl rfl (aC (eIx (pvE 0) e_int) a_nil)) a_nil)))))
  ss_nil)
  ss_nil)
  (ss_cons (st_if (tC' ok_eq (op_eqP (cr_of hr rfl)) (pvE 1) e_str)
  (ss_cons (st_ret (e_make T.M_While A.i_While hr rfl T.g_While T.b_i_While .nil def_nil (by decide) rfl rfl (aC (eIx (pvE 0) e_int) (aC (e_call A.L_built hr0 rfl T.m_L_built T.k_L_built T.b_L_built .nil def_nil (by decide) rfl rfl (aC (eIx (pvE 0) e_int) a_nil)) (aC (eIx (pvE 0) e_int) a_nil)))))
  ss_nil)
  ss_nil)
  (ss_cons (st_if (tC' ok_eq (op_eqP (cr_of hr rfl)) (pvE 1) e_str)
  (ss_cons (st_ret (e_make T.M_Forever A.i_Forever hr rfl T.g_Forever T.b_i_Forever .nil def_nil (by decide) rfl rfl (aC (e_call A.L_built hr0 rfl T.m_L_built T.k_L_built T.b_L_built .nil def_nil (by decide) rfl rfl (aC (eIx (pvE 0) e_int) a_nil)) a_nil)))
  ss_nil)
  ss_nil)
  (ss_cons (st_ret (e_make T.M_Row A.i_Row hr rfl T.g_Row T.b_i_Row .nil def_nil (by decide) rfl rfl (aC (e_bt1 (ok_tupOf rfl) call_tuple_of (bn_of rfl T.n_tuple (by decide +kernel)) ⟨rfl, rfl⟩ (eLc [("_law_part_here", 2)] sc_L_built.nd (i_seq rfl (eIx (pvE 0) e_int)) (fun _ _ _ _ _ => (gNmE 2 (stoE sc_L_built.nd))) (fun _ _ _ _ _ => c_nil) (fun _ _ _ _ _ => (e_call A.L_built hr0 rfl T.m_L_built T.k_L_built T.b_L_built .nil def_nil (by decide) rfl rfl (aC (pvE 2) a_nil))) (ok := (blkOk_by (show blkC N_L_built (defScope s_L_built) _ [("_law_part_here", 2)] = true by decide +kernel))))) a_nil)))
  ss_nil)))))))))
theorem t_L_loosened {P : Program} {pw : World} {K : PySem.W.Frag} {mg : Str → Option Value} {base : Heap} {n : Nat} {f : Addr} {E : Sem} (T : Txt K mg) (A : Oks P pw K mg base T n E) (cdv : Value) (A0 : Around) (outer : List Env) (s : Shared) (H : Hp) (Ex : XK) (hr : Room (2 * n + 1) (A0.deeper (PyProof.Rows.envOfC "_law_loosened" (defScope s_L_loosened) s.heap.objs.size f cdv))) :
    PSs (cxOf CX0 P pw K mg base N_L_loosened "_law_loosened" (defScope s_L_loosened) f cdv A0 outer s H Ex).nox (defBody s_L_loosened) (rdS T.w WF (v_L_loosened E)) := by
  have hr0 : Room (2 * n) (A0.deeper (PyProof.Rows.envOfC "_law_loosened" (defScope s_L_loosened) s.heap.objs.size f cdv)) := hr.mono (by omega)
  exact (ss_cons (stSet 2 sc_L_loosened.nd (eIx (pvE 1) e_int) (stoE sc_L_loosened.nd))
  (ss_cons (st_if (tC' ok_eq (op_eqP (cr_of hr rfl)) (pvE 2) e_str)
  (ss_cons (stSet 1 sc_L_loosened.nd (e_op2 ok_add op_addA (e_sl rfl (pvE 1) o_none (o_some e_int)) (e_tup (aC (e_call A.L_loosened hr0 rfl T.m_L_loosened T.k_L_loosened T.b_L_loosened .nil def_nil (by decide) rfl rfl (aC (pvE 0) (aC (eIx (pvE 1) e_int) a_nil))) (aC (e_call A.L_loosened hr0 rfl T.m_L_loosened T.k_L_loosened T.b_L_loosened .nil def_nil (by decide) rfl rfl (aC (pvE 0) (aC (eIx (pvE 1) e_int) a_nil))) a_nil)))) (stoE sc_L_loosened.nd))
  ss_nil)
  (ss_cons (st_if (tC' ok_eq (op_eqP (cr_of hr rfl)) (pvE 2) e_str)
  (ss_cons (stSet 1 sc_L_loosened.nd (e_op2 ok_add op_addA (e_sl rfl (pvE 1) o_none (o_some e_int)) (e_tup (aC (e_call A.L_loosened hr0 rfl T.m_L_loosened T.k_L_loosened T.b_L_loosened .nil def_nil (by decide) rfl rfl (aC (pvE 0) (aC (eIx (pvE 1) e_int) a_nil))) a_nil))) (stoE sc_L_loosened.nd))
  ss_nil)
  (ss_cons (st_if (tC' ok_eq (op_eqP (cr_of hr rfl)) (pvE 2) e_str)
  (ss_cons (stSet 1 sc_L_loosened.nd (e_op2 ok_add op_addA (e_sl rfl (pvE 1) o_none (o_some e_int)) (e_tup (aC (e_call A.L_loosened hr0 rfl T.m_L_loosened T.k_L_loosened T.b_L_loosened .nil def_nil (by decide) rfl rfl (aC (pvE 0) (aC (eIx (pvE 1) e_int) a_nil))) a_nil))) (stoE sc_L_loosened.nd))
  ss_nil)
  (ss_cons (st_if (tC' ok_eq (op_eqP (cr_of hr rfl)) (pvE 2) e_str)
  (ss_cons (stSet 3 sc_L_loosened.nd (e_bt1 (ok_tupOf rfl) call_tuple_of (bn_of rfl T.n_tuple (by decide +kernel)) ⟨rfl, rfl⟩ (eLc [("_law_part_here", 6)] sc_L_loosened.nd (i_seq rfl (eIx (pvE 1) e_int)) (fun _ _ _ _ _ => (gNmE 6 (stoE sc_L_loosened.nd))) (fun _ _ _ _ _ => c_nil) (fun _ _ _ _ _ => (e_call A.L_loosened hr0 rfl T.m_L_loosened T.k_L_loosened T.b_L_loosened .nil def_nil (by decide) rfl rfl (aC (pvE 0) (aC (pvE 6) a_nil)))) (ok := (blkOk_by (show blkC N_L_loosened (defScope s_L_loosened) _ [("_law_part_here", 6)] = true by decide +kernel))))) (stoE sc_L_loosened.nd))
  (ss_cons (stSet 4 sc_L_loosened.nd (e_call A.L_draw hr0 rfl T.m_L_draw T.k_L_draw T.b_L_draw .nil def_nil (by decide) rfl rfl (aC (pvE 0) (aC (e_op2 ok_add op_addA (e_bf1 (ok_len rfl) call_len (bn_of rfl T.n_len (by decide +kernel)) ⟨rfl, rfl⟩ (pvE 3)) e_int) a_nil))) (stoE sc_L_loosened.nd))
  (ss_cons (stSet 5 sc_L_loosened.nd (e_call A.L_draw hr0 rfl T.m_L_draw T.k_L_draw T.b_L_draw .nil def_nil (by decide) rfl rfl (aC (pvE 0) (aC e_int a_nil))) (stoE sc_L_loosened.nd))
  (ss_cons (st_if (tC' ok_eq (op_eqP (cr_of hr rfl)) (pvE 5) e_int)
  (ss_cons (stSet 3 sc_L_loosened.nd (e_op2 ok_add op_addA (e_tup (aC (e_tup (aC e_str (aC (e_sl rfl (pvE 3) o_none (o_some (pvE 4))) a_nil))) a_nil)) (e_sl rfl (pvE 3) (o_some (pvE 4)) o_none)) (stoE sc_L_loosened.nd))
  ss_nil)
  (ss_cons (st_if (tC' ok_eq (op_eqP (cr_of hr rfl)) (pvE 5) e_int)
  (ss_cons (stSet 3 sc_L_loosened.nd (e_op2 ok_add op_addA (e_op2 ok_add op_addA (e_sl rfl (pvE 3) o_none (o_some (pvE 4))) (e_tup (aC (e_tup (aC e_str (aC (e_tup a_nil) a_nil))) a_nil))) (e_sl rfl (pvE 3) (o_some (pvE 4)) o_none)) (stoE sc_L_loosened.nd))
  ss_nil)
  (ss_cons (st_if (tC' ok_eq (op_eqP (cr_of hr rfl)) (pvE 5) e_int)
  (ss_cons (stSet 3 sc_L_loosened.nd (e_op2 ok_add op_addA (e_sl rfl (pvE 3) o_none (o_some (pvE 4))) (e_tup (aC (e_tup (aC e_str (aC (e_sl rfl (pvE 3) (o_some (pvE 4)) o_none) a_nil))) a_nil))) (stoE sc_L_loosened.nd))
  ss_nil)
  ss_nil)
  ss_nil))
  ss_nil))
  (ss_cons (stSet 1 sc_L_loosened.nd (e_tup (aC e_str (aC (pvE 3) a_nil))) (stoE sc_L_loosened.nd))
  ss_nil)))))
  ss_nil)
  ss_nil))
  ss_nil))
  ss_nil))
  (ss_cons (st_ret (e_if (tC' ok_eq (op_eqP (cr_of hr rfl)) (e_call A.L_draw hr0 rfl T.m_L_draw T.k_L_draw T.b_L_draw .nil def_nil (by decide) rfl rfl (aC (pvE 0) (aC e_int a_nil))) e_int) (e_tup (aC e_str (aC (e_tup (aC (pvE 1) a_nil)) a_nil))) (pvE 1)))
  ss_nil)))
theorem t_L_other {P : Program} {pw : World} {K : PySem.W.Frag} {mg : Str → Option Value} {base : Heap} {n : Nat} {f : Addr} {E : Sem} (T : Txt K mg) (A : Oks P pw K mg base T n E) (cdv : Value) (A0 : Around) (outer : List Env) (s : Shared) (H : Hp) (Ex : XK) (hr : Room (2 * n + 1) (A0.deeper (PyProof.Rows.envOfC "_law_other" (defScope s_L_other) s.heap.objs.size f cdv))) :
    PSs (cxOf CX0 P pw K mg base N_L_other "_law_other" (defScope s_L_other) f cdv A0 outer s H Ex).nox (defBody s_L_other) (rdS T.w WF (v_L_other E)) := by
  have hr0 : Room (2 * n) (A0.deeper (PyProof.Rows.envOfC "_law_other" (defScope s_L_other) s.heap.objs.size f cdv)) := hr.mono (by omega)
  exact (ss_cons (stSet 2 sc_L_other.nd (eIx (pvE 1) e_int) (stoE sc_L_other.nd))
  (ss_cons (stSet 3 sc_L_other.nd (e_call A.L_insides hr0 rfl T.m_L_insides T.k_L_insides T.b_L_insides .nil def_nil (by decide) rfl rfl (aC (pvE 1) a_nil)) (stoE sc_L_other.nd))
  (ss_cons (st_if (PW.pt (w_and (tC' ok_ne (op_neP (cr_of hr rfl)) (pvE 3) (e_lst a_nil)) (w_and1 (tC' ok_cmp op_gt (e_call A.L_draw hr0 rfl T.m_L_draw T.k_L_draw T.b_L_draw .nil def_nil (by decide) rfl rfl (aC (pvE 0) (aC e_int a_nil))) e_int))))
  (ss_cons (stSet 4 sc_L_other.nd (e_call A.L_draw hr0 rfl T.m_L_draw T.k_L_draw T.b_L_draw .nil def_nil (by decide) rfl rfl (aC (pvE 0) (aC (e_bf1 (ok_len rfl) call_len (bn_of rfl T.n_len (by decide +kernel)) ⟨rfl, rfl⟩ (pvE 3)) a_nil))) (stoE sc_L_other.nd))
  (ss_cons (stSet 5 sc_L_other.nd (e_op2 ok_add op_addA (e_op2 ok_add op_addA (e_sl rfl (pvE 3) o_none (o_some (pvE 4))) (e_lst (aC (e_call A.L_other hr0 rfl T.m_L_other T.k_L_other T.b_L_other .nil def_nil (by decide) rfl rfl (aC (pvE 0) (aC (eIx (pvE 3) (pvE 4)) a_nil))) a_nil))) (e_sl rfl (pvE 3) (o_some (e_op2 ok_add op_addA (pvE 4) e_int)) o_none)) (stoE sc_L_other.nd))
  (ss_cons (st_if (tC' ok_eq (op_eqP (cr_of hr rfl)) (pvE 2) e_str)
  (ss_cons (st_ret (e_call A.L_joined hr0 rfl T.m_L_joined T.k_L_joined T.b_L_joined .nil def_nil (by decide) rfl rfl (aC (pvE 5) a_nil)))
  ss_nil)
  ss_nil)
  (ss_cons (st_if (PW.pt (w_or (tC' ok_ne (op_neP (cr_of hr rfl)) (pvE 2) e_str) (w_or1 (tC' ok_ne (op_neP (cr_of hr rfl)) (eIx (pvE 5) e_int) (e_tup (aC e_str (aC (e_tup a_nil) a_nil)))))))
  (ss_cons (st_ret (e_op2 ok_add op_addA (e_sl rfl (pvE 1) o_none (o_some (e_op2 ok_II op_subC (e_bf1 (ok_len rfl) call_len (bn_of rfl T.n_len (by decide +kernel)) ⟨rfl, rfl⟩ (pvE 1)) (e_bf1 (ok_len rfl) call_len (bn_of rfl T.n_len (by decide +kernel)) ⟨rfl, rfl⟩ (pvE 3))))) (e_bt1 (ok_tupOf rfl) call_tuple_of (bn_of rfl T.n_tuple (by decide +kernel)) ⟨rfl, rfl⟩ (pvE 5))))
  ss_nil)
  ss_nil)
  ss_nil))))
  ss_nil)
  (ss_cons (stSet 6 sc_L_other.nd (e_call A.L_name hr0 rfl T.m_L_name T.k_L_name T.b_L_name .nil def_nil (by decide) rfl rfl (aC (pvE 0) a_nil)) (stoE sc_L_other.nd))
  (ss_cons (st_if (tC' ok_inG (op_inA (cr_of hr rfl)) (pvE 2) (e_tup (aC e_str (aC e_str (aC e_str a_nil)))))
  (ss_cons (st_ret (e_tup (aC (e_call A.L_pick hr0 rfl T.m_L_pick T.k_L_pick T.b_L_pick .nil def_nil (by decide) rfl rfl (aC (pvE 0) (aC (e_lst (aC e_str (aC e_str (aC e_str a_nil)))) a_nil))) (aC (pvE 6) a_nil))))
  ss_nil)
  ss_nil)
  (ss_cons (st_if (tC' ok_eq (op_eqP (cr_of hr rfl)) (pvE 2) e_str)
  (ss_cons (st_ret (e_call A.L_pick hr0 rfl T.m_L_pick T.k_L_pick T.b_L_pick .nil def_nil (by decide) rfl rfl (aC (pvE 0) (aC (e_lst (aC (e_op2 ok_add op_addA (e_sl rfl (pvE 1) o_none (o_some e_int)) (e_tup (aC (e_not (eIx (pvE 1) e_int)) (aC (eIx (pvE 1) e_int) a_nil)))) (aC (e_op2 ok_add op_addA (e_tup (aC (pvE 2) (aC (pvE 6) a_nil))) (e_sl rfl (pvE 1) (o_some e_int) o_none)) (aC (e_tup (aC e_str (aC (e_tup (aC e_str a_nil)) a_nil))) a_nil)))) a_nil))))
  ss_nil)
  ss_nil)
  (ss_cons (st_if (tC' ok_eq (op_eqP (cr_of hr rfl)) (pvE 2) e_str)
  (ss_cons (st_ret (e_call A.L_pick hr0 rfl T.m_L_pick T.k_L_pick T.b_L_pick .nil def_nil (by decide) rfl rfl (aC (pvE 0) (aC (e_lst (aC (e_tup (aC (pvE 2) (aC (eIx (pvE 1) e_int) (aC (eIx (pvE 1) e_int) (aC (eIx (pvE 1) e_int) a_nil))))) (aC (e_op2 ok_add op_addA (e_tup (aC (pvE 2) (aC (pvE 6) a_nil))) (e_sl rfl (pvE 1) (o_some e_int) o_none)) (aC (e_op2 ok_add op_addA (e_sl rfl (pvE 1) o_none (o_some e_int)) (e_tup (aC (e_tup (aC e_str a_nil)) a_nil))) a_nil)))) a_nil))))
  ss_nil)
  ss_nil)
  (ss_cons (st_if (tC' ok_eq (op_eqP (cr_of hr rfl)) (pvE 2) e_str)
  (ss_cons (st_ret (e_call A.L_joined hr0 rfl T.m_L_joined T.k_L_joined T.b_L_joined .nil def_nil (by decide) rfl rfl (aC (e_op2 ok_add op_addA (e_revL rfl (pvE 3)) (e_lst (aC (e_call A.L_pick hr0 rfl T.m_L_pick T.k_L_pick T.b_L_pick .nil def_nil (by decide) rfl rfl (aC (pvE 0) (aC (e_lst (aC (e_tup (aC e_str a_nil)) (aC (e_tup (aC e_str (aC (pvE 6) a_nil))) (aC (e_tup (aC e_str (aC (e_tup a_nil) a_nil))) a_nil)))) a_nil))) a_nil))) a_nil)))
  ss_nil)
  ss_nil)
  (ss_cons (st_ret (e_tup (aC e_str (aC (pvE 6) a_nil))))
  ss_nil)))))))))
theorem t_L_class_right {P : Program} {pw : World} {K : PySem.W.Frag} {mg : Str → Option Value} {base : Heap} {n : Nat} {f : Addr} {E : Sem} (T : Txt K mg) (A : Oks P pw K mg base T n E) (cdv : Value) (A0 : Around) (outer : List Env) (s : Shared) (H : Hp) (Ex : XK) (hr : Room (2 * n + 1) (A0.deeper (PyProof.Rows.envOfC "_law_class_right" (defScope s_L_class_right) s.heap.objs.size f cdv))) :
    PSs (cxOf CX0 P pw K mg base N_L_class_right "_law_class_right" (defScope s_L_class_right) f cdv A0 outer s H Ex).nox (defBody s_L_class_right) (rdS T.w WF (v_L_class_right E)) := by
  have hr0 : Room (2 * n) (A0.deeper (PyProof.Rows.envOfC "_law_class_right" (defScope s_L_class_right) s.heap.objs.size f cdv)) := hr.mono (by omega)
  exact (ss_cons (stSet 2 sc_L_class_right.nd (e_lst (aC e_str (aC e_str (aC e_str (aC e_str (aC e_str (aC e_str (aC e_str (aC e_str a_nil))))))))) (stoE sc_L_class_right.nd))
  (ss_cons (stSet 3 sc_L_class_right.nd (e_lst (aC (e_isi rfl (bn_of rfl T.n_isinstance (by decide +kernel)) T.i_Do (.own _) (pe_glob rfl T.g_Do rfl (by decide)) rfl rfl rfl (pvE 0)) (aC (e_isi rfl (bn_of rfl T.n_isinstance (by decide +kernel)) T.i_Return (.own _) (pe_glob rfl T.g_Return rfl (by decide)) rfl rfl rfl (pvE 0)) (aC (e_isi rfl (bn_of rfl T.n_isinstance (by decide +kernel)) T.i_Go (.own _) (pe_glob rfl T.g_Go rfl (by decide)) rfl rfl rfl (pvE 0)) (aC (e_isi rfl (bn_of rfl T.n_isinstance (by decide +kernel)) T.i_End (.own _) (pe_glob rfl T.g_End rfl (by decide)) rfl rfl rfl (pvE 0)) a_nil))))) (stoE sc_L_class_right.nd))
  (ss_cons (stSet 3 sc_L_class_right.nd (e_op2 ok_add op_addA (pvE 3) (e_lst (aC (e_isi rfl (bn_of rfl T.n_isinstance (by decide +kernel)) T.i_If (.own _) (pe_glob rfl T.g_If rfl (by decide)) rfl rfl rfl (pvE 0)) (aC (e_isi rfl (bn_of rfl T.n_isinstance (by decide +kernel)) T.i_While (.own _) (pe_glob rfl T.g_While rfl (by decide)) rfl rfl rfl (pvE 0)) (aC (e_isi rfl (bn_of rfl T.n_isinstance (by decide +kernel)) T.i_Forever (.own _) (pe_glob rfl T.g_Forever rfl (by decide)) rfl rfl rfl (pvE 0)) a_nil))))) (stoE sc_L_class_right.nd))
  (ss_cons (st_if (tC' ok_ne (op_neP (cr_of hr rfl)) (e_op2 ok_add op_addA (pvE 3) (e_lst (aC (e_isi rfl (bn_of rfl T.n_isinstance (by decide +kernel)) T.i_Row (.own _) (pe_glob rfl T.g_Row rfl (by decide)) rfl rfl rfl (pvE 0)) a_nil))) (eLc [("_law_word", 6)] sc_L_class_right.nd (i_seq rfl (pvE 2)) (fun _ _ _ _ _ => (gNmE 6 (stoE sc_L_class_right.nd))) (fun _ _ _ _ _ => c_nil) (fun _ _ _ _ _ => (eC ok_eq (op_eqP (cr_of hr rfl)) (pvE 6) (eIx (pvE 1) e_int))) (ok := (blkOk_by (show blkC N_L_class_right (defScope s_L_class_right) _ [("_law_word", 6)] = true by decide +kernel)))))
  (ss_cons (st_ret e_bl)
  ss_nil)
  ss_nil)
  (ss_cons (st_par rfl (stoE sc_L_class_right.nd) (stoE sc_L_class_right.nd) (by decide) rfl rfl rfl rfl (aC (eC ok_inG (op_inA (cr_of hr rfl)) (eIx (pvE 1) e_int) (e_tup (aC e_str (aC e_str a_nil)))) (aC (eC ok_inG (op_inA (cr_of hr rfl)) (eIx (pvE 1) e_int) (e_tup (aC e_str (aC e_str a_nil)))) a_nil)))
  (ss_cons (st_ret (eC ok_eq (op_eqP (cr_of hr rfl)) (e_lst (aC (e_isi rfl (bn_of rfl T.n_isinstance (by decide +kernel)) T.i_Program (.own _) (pe_glob rfl T.g_Program rfl (by decide)) rfl rfl rfl (pvE 0)) (aC (e_isi rfl (bn_of rfl T.n_isinstance (by decide +kernel)) T.i_Asking (.own _) (pe_glob rfl T.g_Asking rfl (by decide)) rfl rfl rfl (pvE 0)) (aC (e_isi rfl (bn_of rfl T.n_isinstance (by decide +kernel)) T.i_Loop (.own _) (pe_glob rfl T.g_Loop rfl (by decide)) rfl rfl rfl (pvE 0)) a_nil)))) (e_lst (aC e_bl (aC (pvE 4) (aC (pvE 5) a_nil))))))
  ss_nil))))))
theorem t_L_is {P : Program} {pw : World} {K : PySem.W.Frag} {mg : Str → Option Value} {base : Heap} {n : Nat} {f : Addr} {E : Sem} (T : Txt K mg) (A : Oks P pw K mg base T n E) (cdv : Value) (A0 : Around) (outer : List Env) (s : Shared) (H : Hp) (Ex : XK) (hgu : A0.guards = some []) (hr : Room (2 * n + 1) (A0.deeper (PyProof.Rows.envOfC "_law_is" (defScope s_L_is) s.heap.objs.size f cdv))) :
    PSs (cxOf CX0 P pw K mg base N_L_is "_law_is" (defScope s_L_is) f cdv A0 outer s H Ex).nox (defBody s_L_is) (rdS T.w WF (v_L_is E)) := by
  have hr0 : Room (2 * n) (A0.deeper (PyProof.Rows.envOfC "_law_is" (defScope s_L_is) s.heap.objs.size f cdv)) := hr.mono (by omega)
  exact (ss_cons (stFor (i_rng1 (bn_of rfl T.n_range (by decide +kernel)) rfl (aC e_int a_nil)) (gNmE 2 (stoE sc_L_is.nd))
  (ss_cons (st_if (PW.pt (w_or (tC' ok_ne (op_neP (cr_of hr rfl)) (e_bf1 (ok_repr rfl) (call_repr hgu (units2_of hr)) (bn_of rfl T.n_repr (by decide +kernel)) ⟨rfl, rfl⟩ (e_prop rfl 1 rfl T.p_told A.told hr T.b_told rfl (pvE 0))) (e_bf1 (ok_repr rfl) (call_repr hgu (units2_of hr)) (bn_of rfl T.n_repr (by decide +kernel)) ⟨rfl, rfl⟩ (pvE 1))) (w_or1 (tC' ok_ne (op_neP (cr_of hr rfl)) (e_lenO rfl rfl T.l_plen T.f_plen A.plen hr T.b_plen (bn_of rfl T.n_len (by decide +kernel)) rfl rfl (aC (pvE 0) a_nil)) (e_call A.L_many hr0 rfl T.m_L_many T.k_L_many T.b_L_many .nil def_nil (by decide) rfl rfl (aC (pvE 1) a_nil))))))
  (ss_cons (st_ret e_bl)
  ss_nil)
  ss_nil)
  ss_nil))
  (ss_cons (st_ret (e_isi rfl (bn_of rfl T.n_isinstance (by decide +kernel)) T.i_Program (.own _) (pe_glob rfl T.g_Program rfl (by decide)) rfl rfl rfl (pvE 0)))
  ss_nil))
theorem t_L_strange {P : Program} {pw : World} {K : PySem.W.Frag} {mg : Str → Option Value} {base : Heap} {n : Nat} {f : Addr} {E : Sem} (T : Txt K mg) (A : Oks P pw K mg base T n E) (cdv : Value) (A0 : Around) (outer : List Env) (s : Shared) (H : Hp) (Ex : XK) (hgu : A0.guards = some []) (hr : Room (2 * n + 1) (A0.deeper (PyProof.Rows.envOfC "_law_strange" (defScope s_L_strange) s.heap.objs.size f cdv))) :
    PSs (cxOf CX0 P pw K mg base N_L_strange "_law_strange" (defScope s_L_strange) f cdv A0 outer s H Ex).nox (defBody s_L_strange) (rdS T.w WF (v_L_strange E)) := by
  have hr0 : Room (2 * n) (A0.deeper (PyProof.Rows.envOfC "_law_strange" (defScope s_L_strange) s.heap.objs.size f cdv)) := hr.mono (by omega)
  exact (ss_cons (stSet 2 sc_L_strange.nd (e_lst (aC e_non (aC (pvE 1) (aC (e_bf1 (ok_repr rfl) (call_repr hgu (units2_of hr)) (bn_of rfl T.n_repr (by decide +kernel)) ⟨rfl, rfl⟩ (pvE 1)) (aC (e_bt1 (ok_lstOf rfl) call_list_of (bn_of rfl T.n_list (by decide +kernel)) ⟨rfl, rfl⟩ (pvE 1)) (aC e_dict0 (aC e_int (aC (eIx (pvE 1) e_int) a_nil)))))))) (stoE sc_L_strange.nd))
  (ss_cons (st_ret (eC ok_eq (op_eqP (cr_of hr rfl)) (eLc [("_law_thing", 3)] sc_L_strange.nd (i_seq rfl (pvE 2)) (fun _ _ _ _ _ => (gNmE 3 (stoE sc_L_strange.nd))) (fun _ _ _ _ _ => (c_one (PW.pt (w_or (t_eqO rfl rfl T.q_peq A.peq hr T.b_peq (pvE 0) (pvE 3)) (w_or1 (t_not (t_neO rfl rfl T.q_peq A.peq hr T.b_peq (pvE 0) (pvE 3)))))))) (fun _ _ _ _ _ => e_int) (ok := (blkOk_by (show blkC N_L_strange (defScope s_L_strange) _ [("_law_thing", 3)] = true by decide +kernel)))) (e_lst a_nil)))
  ss_nil))
theorem t_law {P : Program} {pw : World} {K : PySem.W.Frag} {mg : Str → Option Value} {base : Heap} {n : Nat} {f : Addr} {E : Sem} (T : Txt K mg) (A : Oks P pw K mg base T n E) (cdv : Value) (A0 : Around) (outer : List Env) (s : Shared) (H : Hp) (Ex : XK) (hgu : A0.guards = some []) (hr : Room (2 * n + 1) (A0.deeper (PyProof.Rows.envOfC "law" (defScope s_law) s.heap.objs.size f cdv))) :
    PSs (cxOf CX0 P pw K mg base N_law "law" (defScope s_law) f cdv A0 outer s H Ex).nox (defBody s_law) (rdS T.w WF (v_law E)) := by
  have hr0 : Room (2 * n) (A0.deeper (PyProof.Rows.envOfC "law" (defScope s_law) s.heap.objs.size f cdv)) := hr.mono (by omega)
  exact (ss_cons (stSet 1 sc_law.nd (e_call A.L_begin hr0 rfl T.m_L_begin T.k_L_begin T.b_L_begin .nil def_nil (by decide) rfl rfl (aC (pvE 0) a_nil)) (stoE sc_law.nd))
  (ss_cons (stFor (i_rng1 (bn_of rfl T.n_range (by decide +kernel)) rfl (aC (e_call A.L_rounds hr0 rfl T.m_L_rounds T.k_L_rounds T.b_L_rounds .nil def_nil (by decide) rfl rfl (aC (pvE 0) (aC e_int (aC e_int a_nil)))) a_nil)) (gNmE 2 (stoE sc_law.nd))
  (ss_cons (stSet 3 sc_law.nd (e_call A.L_told hr0 rfl T.m_L_told T.k_L_told T.b_L_told .nil def_nil (by decide) rfl rfl (aC (pvE 1) (aC (e_op2 ok_add op_addA e_int (e_call A.L_draw hr0 rfl T.m_L_draw T.k_L_draw T.b_L_draw .nil def_nil (by decide) rfl rfl (aC (pvE 1) (aC e_int a_nil)))) (aC (e_call A.L_kit hr0 rfl T.m_L_kit T.k_L_kit T.b_L_kit .nil def_nil (by decide) rfl rfl (aC (pvE 1) (aC e_int (aC (e_lst (aC e_str a_nil)) a_nil)))) a_nil)))) (stoE sc_law.nd))
  (ss_cons (stSet 4 sc_law.nd (e_call A.L_loosened hr0 rfl T.m_L_loosened T.k_L_loosened T.b_L_loosened .nil def_nil (by decide) rfl rfl (aC (pvE 1) (aC (pvE 3) a_nil))) (stoE sc_law.nd))
  (ss_cons (stSet 5 sc_law.nd (e_bf1 (ok_repr rfl) (call_repr hgu (units2_of hr)) (bn_of rfl T.n_repr (by decide +kernel)) ⟨rfl, rfl⟩ (pvE 4)) (stoE sc_law.nd))
  (ss_cons (stSet 6 sc_law.nd (e_lst (aC (e_call A.L_built hr0 rfl T.m_L_built T.k_L_built T.b_L_built .nil def_nil (by decide) rfl rfl (aC (pvE 3) a_nil)) (aC (e_smeth (pe_glob rfl T.g_Program rfl (by decide)) T.sm_s_Program_of A.s_Program_of hr0 T.b_s_Program_of .nil def_nil rfl rfl rfl (aC (pvE 3) a_nil)) (aC (e_call A.L_built hr0 rfl T.m_L_built T.k_L_built T.b_L_built .nil def_nil (by decide) rfl rfl (aC (pvE 4) a_nil)) (aC (e_smeth (pe_glob rfl T.g_Program rfl (by decide)) T.sm_s_Program_of A.s_Program_of hr0 T.b_s_Program_of .nil def_nil rfl rfl rfl (aC (pvE 4) a_nil)) a_nil))))) (stoE sc_law.nd))
  (ss_cons (st_if (PW.pt (w_or (tC' ok_ne (op_neP (cr_of hr rfl)) (eLc [("_law_one", 10)] sc_law.nd (i_seq rfl (pvE 6)) (fun _ _ _ _ _ => (gNmE 10 (stoE sc_law.nd))) (fun _ _ _ _ _ => (c_one (t_not (tV (e_callG hgu A.L_is hr0 rfl T.m_L_is T.k_L_is T.b_L_is (by decide) rfl rfl (aC (pvE 10) (aC (pvE 3) a_nil))))))) (fun _ _ _ _ _ => e_int) (ok := (blkOk_by (show blkC N_law (defScope s_law) _ [("_law_one", 10)] = true by decide +kernel)))) (e_lst a_nil)) (w_or1 (tC' ok_ne (op_neP (cr_of hr rfl)) (e_bf1 (ok_repr rfl) (call_repr hgu (units2_of hr)) (bn_of rfl T.n_repr (by decide +kernel)) ⟨rfl, rfl⟩ (pvE 4)) (pvE 5)))))
  (ss_cons (st_ret e_bl)
  ss_nil)
  ss_nil)
  (ss_cons (st_if (PW.pt (w_or (t_not (tV (e_call A.L_class_right hr0 rfl T.m_L_class_right T.k_L_class_right T.b_L_class_right .nil def_nil (by decide) rfl rfl (aC (eIx (pvE 6) e_int) (aC (pvE 3) a_nil))))) (w_or1 (t_not (tV (e_call A.L_class_right hr0 rfl T.m_L_class_right T.k_L_class_right T.b_L_class_right .nil def_nil (by decide) rfl rfl (aC (eIx (pvE 6) e_int) (aC (pvE 3) a_nil))))))))
  (ss_cons (st_ret e_bl)
  ss_nil)
  ss_nil)
  (ss_cons (st_if (PW.pt (w_and (tC' ok_eq (op_eqP (cr_of hr rfl)) (eIx (pvE 3) e_int) e_str) (w_and (tV (eIx (pvE 3) e_int)) (w_and1 (t_neO rfl rfl T.q_peq A.peq hr T.b_peq (e_make T.M_While A.i_While hr rfl T.g_While T.bd_i_While (.cons (show RelV (.bl true) (.bool true) from rfl) .nil) (def_bl def_nil) (by decide) rfl rfl (aC (eIx (pvE 3) e_int) (aC (e_call A.L_built hr0 rfl T.m_L_built T.k_L_built T.b_L_built .nil def_nil (by decide) rfl rfl (aC (eIx (pvE 3) e_int) a_nil)) a_nil))) (eIx (pvE 6) e_int))))))
  (ss_cons (st_ret e_bl)
  ss_nil)
  ss_nil)
  (ss_cons (st_if (PW.pt (w_or (tC' ok_ne (op_neP (cr_of hr rfl)) (eLc [("_law_one", 10)] sc_law.nd (i_seq rfl (pvE 6)) (fun _ _ _ _ _ => (gNmE 10 (stoE sc_law.nd))) (fun _ _ _ _ _ => (c_one (PW.pt (w_or (t_not (t_eqO rfl rfl T.q_peq A.peq hr T.b_peq (pvE 10) (eIx (pvE 6) e_int))) (w_or1 (t_neO rfl rfl T.q_peq A.peq hr T.b_peq (pvE 10) (eIx (pvE 6) (e_un ok_neg un_neg e_int)))))))) (fun _ _ _ _ _ => e_int) (ok := (blkOk_by (show blkC N_law (defScope s_law) _ [("_law_one", 10)] = true by decide +kernel)))) (e_lst a_nil)) (w_or1 (t_not (tV (e_callG hgu A.L_strange hr0 rfl T.m_L_strange T.k_L_strange T.b_L_strange (by decide) rfl rfl (aC (eIx (pvE 6) e_int) (aC (pvE 3) a_nil))))))))
  (ss_cons (st_ret e_bl)
  ss_nil)
  ss_nil)
  (ss_cons (stSet 7 sc_law.nd (e_call A.L_other hr0 rfl T.m_L_other T.k_L_other T.b_L_other .nil def_nil (by decide) rfl rfl (aC (pvE 1) (aC (pvE 3) a_nil))) (stoE sc_law.nd))
  (ss_cons (stSet 8 sc_law.nd (e_smeth (pe_glob rfl T.g_Program rfl (by decide)) T.sm_s_Program_of A.s_Program_of hr0 T.b_s_Program_of .nil def_nil rfl rfl rfl (aC (pvE 7) a_nil)) (stoE sc_law.nd))
  (ss_cons (stSet 9 sc_law.nd (e_lst (aC (e_eqO rfl rfl T.q_peq A.peq hr T.b_peq (pvE 8) (eIx (pvE 6) e_int)) (aC (e_not (e_neO rfl rfl T.q_peq A.peq hr T.b_peq (eIx (pvE 6) e_int) (pvE 8))) (aC (e_eqO rfl rfl T.q_peq A.peq hr T.b_peq (eIx (pvE 6) e_int) (pvE 8)) a_nil)))) (stoE sc_law.nd))
  (ss_cons (st_if (PW.pt (w_or (t_not (tV (e_callG hgu A.L_is hr0 rfl T.m_L_is T.k_L_is T.b_L_is (by decide) rfl rfl (aC (pvE 8) (aC (pvE 7) a_nil))))) (w_or1 (tC' ok_ne (op_neP (cr_of hr rfl)) (pvE 9) (e_op2 ok_mul op_mulA (e_lst (aC (eC ok_eq (op_eqP (cr_of hr rfl)) (pvE 7) (pvE 3)) a_nil)) e_int)))))
  (ss_cons (st_ret e_bl)
  ss_nil)
  ss_nil)
  ss_nil)))))))))))))
  (ss_cons (st_ret e_bl)
  ss_nil)))
theorem oks_succ {P : Program} {pw : World} {K : PySem.W.Frag} {mg : Str → Option Value} {base : Heap} {T : Txt K mg} {n : Nat} {E : Sem} (A : Oks P pw K mg base T n E) : Oks P pw K mg base T (n + 1) (step E) where
  told := fn_ok T.F_told sc_told fun cdv A0 outer s H Ex hr => t_told T A cdv A0 outer s H Ex hr
  s_Program_of := fn_ok T.F_s_Program_of sc_s_Program_of fun cdv A0 outer s H Ex hr => t_s_Program_of T A cdv A0 outer s H Ex hr
  plen := fn_ok T.F_plen sc_plen fun cdv A0 outer s H Ex hr => t_plen T A cdv A0 outer s H Ex hr
  peq := fn_ok T.F_peq sc_peq fun cdv A0 outer s H Ex hr => t_peq T A cdv A0 outer s H Ex hr
  padd := fn_ok T.F_padd sc_padd fun cdv A0 outer s H Ex hr => t_padd T A cdv A0 outer s H Ex hr
  pmul := fn_ok T.F_pmul sc_pmul fun cdv A0 outer s H Ex hr => t_pmul T A cdv A0 outer s H Ex hr
  i_Do := init_ok T.F_i_Do sc_i_Do fun cdv A0 outer s H Ex hr => t_i_Do T A cdv A0 outer s H Ex hr
  i_Return := init_ok T.F_i_Return sc_i_Return fun cdv A0 outer s H Ex hr => t_i_Return T A cdv A0 outer s H Ex hr
  i_Go := init_ok T.F_i_Go sc_i_Go fun cdv A0 outer s H Ex hr => t_i_Go T A cdv A0 outer s H Ex hr
  i_End := init_ok T.F_i_End sc_i_End fun cdv A0 outer s H Ex hr => t_i_End T A cdv A0 outer s H Ex hr
  i_If := init_ok T.F_i_If sc_i_If fun cdv A0 outer s H Ex hr => t_i_If T A cdv A0 outer s H Ex hr
  i_While := init_okD T.F_i_While sc_i_While fun cdv A0 outer s H Ex hr => t_i_While T A cdv A0 outer s H Ex hr
  i_Forever := init_ok T.F_i_Forever sc_i_Forever fun cdv A0 outer s H Ex hr => t_i_Forever T A cdv A0 outer s H Ex hr
  i_Row := init_ok T.F_i_Row sc_i_Row fun cdv A0 outer s H Ex hr => t_i_Row T A cdv A0 outer s H Ex hr
  is_number := fn_ok T.F_is_number sc_is_number fun cdv A0 outer s H Ex hr => t_is_number T A cdv A0 outer s H Ex hr
  is_name := fn_ok T.F_is_name sc_is_name fun cdv A0 outer s H Ex hr => t_is_name T A cdv A0 outer s H Ex hr
  sized := fn_ok T.F_sized sc_sized fun cdv A0 outer s H Ex hr => t_sized T A cdv A0 outer s H Ex hr
  need_program := fn_ok T.F_need_program sc_need_program fun cdv A0 outer s H Ex hr => t_need_program T A cdv A0 outer s H Ex hr
  need_name := fn_ok T.F_need_name sc_need_name fun cdv A0 outer s H Ex hr => t_need_name T A cdv A0 outer s H Ex hr
  parts_of := fn_ok T.F_parts_of sc_parts_of fun cdv A0 outer s H Ex hr => t_parts_of T A cdv A0 outer s H Ex hr
  made_end := fn_ok T.F_made_end sc_made_end fun cdv A0 outer s H Ex hr => t_made_end T A cdv A0 outer s H Ex hr
  made := fn_ok T.F_made sc_made fun cdv A0 outer s H Ex hr => t_made T A cdv A0 outer s H Ex hr
  L_begin := fn_ok T.F_L_begin sc_L_begin fun cdv A0 outer s H Ex hr => t_L_begin T A cdv A0 outer s H Ex hr
  L_draw := fn_ok T.F_L_draw sc_L_draw fun cdv A0 outer s H Ex hr => t_L_draw T A cdv A0 outer s H Ex hr
  L_pick := fn_ok T.F_L_pick sc_L_pick fun cdv A0 outer s H Ex hr => t_L_pick T A cdv A0 outer s H Ex hr
  L_rounds := fn_ok T.F_L_rounds sc_L_rounds fun cdv A0 outer s H Ex hr => t_L_rounds T A cdv A0 outer s H Ex hr
  L_kept := fn_ok T.F_L_kept sc_L_kept fun cdv A0 outer s H Ex hr => t_L_kept T A cdv A0 outer s H Ex hr
  L_name := fn_ok T.F_L_name sc_L_name fun cdv A0 outer s H Ex hr => t_L_name T A cdv A0 outer s H Ex hr
  L_kit := fn_ok T.F_L_kit sc_L_kit fun cdv A0 outer s H Ex hr => t_L_kit T A cdv A0 outer s H Ex hr
  L_last := fn_ok T.F_L_last sc_L_last fun cdv A0 outer s H Ex hr => t_L_last T A cdv A0 outer s H Ex hr
  L_part := fn_ok T.F_L_part sc_L_part fun cdv A0 outer s H Ex hr => t_L_part T A cdv A0 outer s H Ex hr
  L_told := fn_ok T.F_L_told sc_L_told fun cdv A0 outer s H Ex hr => t_L_told T A cdv A0 outer s H Ex hr
  L_insides := fn_ok T.F_L_insides sc_L_insides fun cdv A0 outer s H Ex hr => t_L_insides T A cdv A0 outer s H Ex hr
  L_many := fn_ok T.F_L_many sc_L_many fun cdv A0 outer s H Ex hr => t_L_many T A cdv A0 outer s H Ex hr
  L_joined := fn_ok T.F_L_joined sc_L_joined fun cdv A0 outer s H Ex hr => t_L_joined T A cdv A0 outer s H Ex hr
  L_built := fn_ok T.F_L_built sc_L_built fun cdv A0 outer s H Ex hr => t_L_built T A cdv A0 outer s H Ex hr
  L_loosened := fn_ok T.F_L_loosened sc_L_loosened fun cdv A0 outer s H Ex hr => t_L_loosened T A cdv A0 outer s H Ex hr
  L_other := fn_ok T.F_L_other sc_L_other fun cdv A0 outer s H Ex hr => t_L_other T A cdv A0 outer s H Ex hr
  L_class_right := fn_ok T.F_L_class_right sc_L_class_right fun cdv A0 outer s H Ex hr => t_L_class_right T A cdv A0 outer s H Ex hr
  L_is := fnG_ok T.F_L_is sc_L_is fun cdv A0 outer s H Ex hg hr => t_L_is T A cdv A0 outer s H Ex hg hr
  L_strange := fnG_ok T.F_L_strange sc_L_strange fun cdv A0 outer s H Ex hg hr => t_L_strange T A cdv A0 outer s H Ex hg hr
  law := fnG_ok T.F_law sc_law fun cdv A0 outer s H Ex hg hr => t_law T A cdv A0 outer s H Ex hg hr
end K25

set_option maxRecDepth 100000
set_option maxHeartbeats 4000000
namespace K25
open PySem L2 DL
def clN : List Str := ["Program", "Do", "Return", "Go", "End", "If", "While", "Forever", "Row", "Asking", "Loop"]
def clA (K : PySem.W.Frag) (c : Nat) : Addr := He.ga K (clN.getD c "Program")
def A_told (K : PySem.W.Frag) : Addr := getOf K (He.ma K (He.ga K "Program") "told")
def A_s_Program_of (K : PySem.W.Frag) : Addr := smOf K (He.ma K (He.ga K "Program") "of")
def A_plen (K : PySem.W.Frag) : Addr := He.ma K (He.ga K "Program") "__len__"
def A_peq (K : PySem.W.Frag) : Addr := He.ma K (He.ga K "Program") "__eq__"
def A_padd (K : PySem.W.Frag) : Addr := He.ma K (He.ga K "Program") "__add__"
def A_pmul (K : PySem.W.Frag) : Addr := He.ma K (He.ga K "Program") "__mul__"
def A_i_Do (K : PySem.W.Frag) : Addr := He.ma K (He.ga K "Do") "__init__"
def A_i_Return (K : PySem.W.Frag) : Addr := He.ma K (He.ga K "Return") "__init__"
def A_i_Go (K : PySem.W.Frag) : Addr := He.ma K (He.ga K "Go") "__init__"
def A_i_End (K : PySem.W.Frag) : Addr := He.ma K (He.ga K "End") "__init__"
def A_i_If (K : PySem.W.Frag) : Addr := He.ma K (He.ga K "If") "__init__"
def A_i_While (K : PySem.W.Frag) : Addr := He.ma K (He.ga K "While") "__init__"
def A_i_Forever (K : PySem.W.Frag) : Addr := He.ma K (He.ga K "Forever") "__init__"
def A_i_Row (K : PySem.W.Frag) : Addr := He.ma K (He.ga K "Row") "__init__"
def A_is_number (K : PySem.W.Frag) : Addr := He.ga K "is_number"
def A_is_name (K : PySem.W.Frag) : Addr := He.ga K "is_name"
def A_sized (K : PySem.W.Frag) : Addr := He.ga K "sized"
def A_need_program (K : PySem.W.Frag) : Addr := He.ga K "need_program"
def A_need_name (K : PySem.W.Frag) : Addr := He.ga K "need_name"
def A_parts_of (K : PySem.W.Frag) : Addr := He.ga K "parts_of"
def A_made_end (K : PySem.W.Frag) : Addr := He.ga K "made_end"
def A_made (K : PySem.W.Frag) : Addr := He.ga K "made"
def A_L_begin (K : PySem.W.Frag) : Addr := He.ga K "_law_begin"
def A_L_draw (K : PySem.W.Frag) : Addr := He.ga K "_law_draw"
def A_L_pick (K : PySem.W.Frag) : Addr := He.ga K "_law_pick"
def A_L_rounds (K : PySem.W.Frag) : Addr := He.ga K "_law_rounds"
def A_L_kept (K : PySem.W.Frag) : Addr := He.ga K "_law_kept"
def A_L_name (K : PySem.W.Frag) : Addr := He.ga K "_law_name"
def A_L_kit (K : PySem.W.Frag) : Addr := He.ga K "_law_kit"
def A_L_last (K : PySem.W.Frag) : Addr := He.ga K "_law_last"
def A_L_part (K : PySem.W.Frag) : Addr := He.ga K "_law_part"
def A_L_told (K : PySem.W.Frag) : Addr := He.ga K "_law_told"
def A_L_insides (K : PySem.W.Frag) : Addr := He.ga K "_law_insides"
def A_L_many (K : PySem.W.Frag) : Addr := He.ga K "_law_many"
def A_L_joined (K : PySem.W.Frag) : Addr := He.ga K "_law_joined"
def A_L_built (K : PySem.W.Frag) : Addr := He.ga K "_law_built"
def A_L_loosened (K : PySem.W.Frag) : Addr := He.ga K "_law_loosened"
def A_L_other (K : PySem.W.Frag) : Addr := He.ga K "_law_other"
def A_L_class_right (K : PySem.W.Frag) : Addr := He.ga K "_law_class_right"
def A_L_is (K : PySem.W.Frag) : Addr := He.ga K "_law_is"
def A_L_strange (K : PySem.W.Frag) : Addr := He.ga K "_law_strange"
def A_law (K : PySem.W.Frag) : Addr := He.ga K "law"
def adrs (K : PySem.W.Frag) : List Addr := [A_told K, A_s_Program_of K, A_plen K, A_peq K, A_padd K, A_pmul K, A_i_Do K, A_i_Return K, A_i_Go K, A_i_End K, A_i_If K, A_i_While K, A_i_Forever K, A_i_Row K, A_is_number K, A_is_name K, A_sized K, A_need_program K, A_need_name K, A_parts_of K, A_made_end K, A_made K, A_L_begin K, A_L_draw K, A_L_pick K, A_L_rounds K, A_L_kept K, A_L_name K, A_L_kit K, A_L_last K, A_L_part K, A_L_told K, A_L_insides K, A_L_many K, A_L_joined K, A_L_built K, A_L_loosened K, A_L_other K, A_L_class_right K, A_L_is K, A_L_strange K, A_law K]
def vals : List He.FnW := [fnVal "told" "Program.told" s_told, fnVal "of" "Program.of" s_s_Program_of, fnVal "__len__" "Program.__len__" s_plen, fnVal "__eq__" "Program.__eq__" s_peq, fnVal "__add__" "Program.__add__" s_padd, fnVal "__mul__" "Program.__mul__" s_pmul, fnVal "__init__" "Do.__init__" s_i_Do, fnVal "__init__" "Return.__init__" s_i_Return, fnVal "__init__" "Go.__init__" s_i_Go, fnVal "__init__" "End.__init__" s_i_End, fnVal "__init__" "If.__init__" s_i_If, fnVal "__init__" "While.__init__" s_i_While, fnVal "__init__" "Forever.__init__" s_i_Forever, fnVal "__init__" "Row.__init__" s_i_Row, fnVal "is_number" "is_number" s_is_number, fnVal "is_name" "is_name" s_is_name, fnVal "sized" "sized" s_sized, fnVal "need_program" "need_program" s_need_program, fnVal "need_name" "need_name" s_need_name, fnVal "parts_of" "parts_of" s_parts_of, fnVal "made_end" "made_end" s_made_end, fnVal "made" "made" s_made, fnVal "_law_begin" "_law_begin" s_L_begin, fnVal "_law_draw" "_law_draw" s_L_draw, fnVal "_law_pick" "_law_pick" s_L_pick, fnVal "_law_rounds" "_law_rounds" s_L_rounds, fnVal "_law_kept" "_law_kept" s_L_kept, fnVal "_law_name" "_law_name" s_L_name, fnVal "_law_kit" "_law_kit" s_L_kit, fnVal "_law_last" "_law_last" s_L_last, fnVal "_law_part" "_law_part" s_L_part, fnVal "_law_told" "_law_told" s_L_told, fnVal "_law_insides" "_law_insides" s_L_insides, fnVal "_law_many" "_law_many" s_L_many, fnVal "_law_joined" "_law_joined" s_L_joined, fnVal "_law_built" "_law_built" s_L_built, fnVal "_law_loosened" "_law_loosened" s_L_loosened, fnVal "_law_other" "_law_other" s_L_other, fnVal "_law_class_right" "_law_class_right" s_L_class_right, fnVal "_law_is" "_law_is" s_L_is, fnVal "_law_strange" "_law_strange" s_L_strange, fnVal "law" "law" s_law]
def checks (K : PySem.W.Frag) : List Bool := [
  fnB K (A_told K) "Program.told" [],
  fnB K (A_s_Program_of K) "Program.of" [],
  fnB K (A_plen K) "Program.__len__" [],
  fnB K (A_peq K) "Program.__eq__" [],
  fnB K (A_padd K) "Program.__add__" [],
  fnB K (A_pmul K) "Program.__mul__" [],
  fnB K (A_i_Do K) "Do.__init__" [],
  fnB K (A_i_Return K) "Return.__init__" [],
  fnB K (A_i_Go K) "Go.__init__" [],
  fnB K (A_i_End K) "End.__init__" [],
  fnB K (A_i_If K) "If.__init__" [],
  fnB K (A_i_While K) "While.__init__" [.bl true],
  fnB K (A_i_Forever K) "Forever.__init__" [],
  fnB K (A_i_Row K) "Row.__init__" [],
  fnB K (A_is_number K) "is_number" [],
  gloB K "is_number",
  fnB K (A_is_name K) "is_name" [],
  gloB K "is_name",
  fnB K (A_sized K) "sized" [],
  gloB K "sized",
  fnB K (A_need_program K) "need_program" [],
  gloB K "need_program",
  fnB K (A_need_name K) "need_name" [],
  gloB K "need_name",
  fnB K (A_parts_of K) "parts_of" [],
  gloB K "parts_of",
  fnB K (A_made_end K) "made_end" [],
  gloB K "made_end",
  fnB K (A_made K) "made" [],
  gloB K "made",
  fnB K (A_L_begin K) "_law_begin" [],
  gloB K "_law_begin",
  fnB K (A_L_draw K) "_law_draw" [],
  gloB K "_law_draw",
  fnB K (A_L_pick K) "_law_pick" [],
  gloB K "_law_pick",
  fnB K (A_L_rounds K) "_law_rounds" [],
  gloB K "_law_rounds",
  fnB K (A_L_kept K) "_law_kept" [],
  gloB K "_law_kept",
  fnB K (A_L_name K) "_law_name" [],
  gloB K "_law_name",
  fnB K (A_L_kit K) "_law_kit" [],
  gloB K "_law_kit",
  fnB K (A_L_last K) "_law_last" [],
  gloB K "_law_last",
  fnB K (A_L_part K) "_law_part" [],
  gloB K "_law_part",
  fnB K (A_L_told K) "_law_told" [],
  gloB K "_law_told",
  fnB K (A_L_insides K) "_law_insides" [],
  gloB K "_law_insides",
  fnB K (A_L_many K) "_law_many" [],
  gloB K "_law_many",
  fnB K (A_L_joined K) "_law_joined" [],
  gloB K "_law_joined",
  fnB K (A_L_built K) "_law_built" [],
  gloB K "_law_built",
  fnB K (A_L_loosened K) "_law_loosened" [],
  gloB K "_law_loosened",
  fnB K (A_L_other K) "_law_other" [],
  gloB K "_law_other",
  fnB K (A_L_class_right K) "_law_class_right" [],
  gloB K "_law_class_right",
  fnB K (A_L_is K) "_law_is" [],
  gloB K "_law_is",
  fnB K (A_L_strange K) "_law_strange" [],
  gloB K "_law_strange",
  fnB K (A_law K) "law" [],
  gloB K "law",
  freeB K "abs",
  freeB K "all",
  freeB K "bool",
  freeB K "int",
  freeB K "isinstance",
  freeB K "len",
  freeB K "list",
  freeB K "max",
  freeB K "min",
  freeB K "range",
  freeB K "repr",
  freeB K "str",
  freeB K "sum",
  freeB K "tuple",
  hasG K "DEEPEST",
  cstB K k_DEEPEST (gVal K "DEEPEST"),
  hasG K "KEPT",
  cstB K k_KEPT (gVal K "KEPT"),
  hasG K "LETTERS",
  cstB K k_LETTERS (gVal K "LETTERS"),
  hasG K "LONGEST",
  cstB K k_LONGEST (gVal K "LONGEST"),
  hasG K "MOST_PARTS",
  cstB K k_MOST_PARTS (gVal K "MOST_PARTS"),
  hasG K "MOST_TIMES",
  cstB K k_MOST_TIMES (gVal K "MOST_TIMES"),
  hasG K "NOTHING",
  cstB K k_NOTHING (gVal K "NOTHING"),
  gloB K "Program",
  gloB K "Do",
  gloB K "Return",
  gloB K "Go",
  gloB K "End",
  gloB K "If",
  gloB K "While",
  gloB K "Forever",
  gloB K "Row",
  gloB K "Asking",
  gloB K "Loop",
  mkB K (clA K 1) (A_i_Do K),
  mkB K (clA K 2) (A_i_Return K),
  mkB K (clA K 3) (A_i_Go K),
  mkB K (clA K 4) (A_i_End K),
  mkB K (clA K 5) (A_i_If K),
  mkB K (clA K 6) (A_i_While K),
  mkB K (clA K 7) (A_i_Forever K),
  mkB K (clA K 8) (A_i_Row K),
  [1, 2, 3, 4, 5, 6, 7, 8].all fun c => clsB K (clA K c) && noatB K (clA K c) "held",
  [1, 2, 3, 4, 5, 6, 7, 8].all fun c => clsB K (clA K c) && propB K (clA K c) "told" (He.ma K (He.ga K "Program") "told") (A_told K),
  [1, 2, 3, 4, 5, 6, 7, 8].all fun c => decide (PySem.W.findIn K (.ref (clA K c)) "__len__" = some (some (.ref (A_plen K)))),
  PySem.W.isFn K (.ref (A_plen K)),
  binB K (clA K) [1, 2, 3, 4, 5, 6, 7, 8] "add" (A_padd K),
  binB K (clA K) [1, 2, 3, 4, 5, 6, 7, 8] "mul" (A_pmul K),
  cmpCB K (clA K) [1, 2, 3, 4, 5, 6, 7, 8] ["int", "bool", "str", "tuple", "list", "dict", "NoneType"] (A_peq K),
  smB K (clA K 0) (.type "type") "of" (He.ma K (He.ga K "Program") "of") (A_s_Program_of K),
  isiB K (clA K) ["int", "bool", "str", "tuple", "list", "dict", "NoneType"] [1, 2, 3, 4, 5, 6, 7, 8] (.ref (clA K 9)) pb_Asking pc_Asking,
  isiB K (clA K) ["int", "bool", "str", "tuple", "list", "dict", "NoneType"] [1, 2, 3, 4, 5, 6, 7, 8] (.ref (clA K 1)) pb_Do pc_Do,
  isiB K (clA K) ["int", "bool", "str", "tuple", "list", "dict", "NoneType"] [1, 2, 3, 4, 5, 6, 7, 8] (.ref (clA K 4)) pb_End pc_End,
  isiB K (clA K) ["int", "bool", "str", "tuple", "list", "dict", "NoneType"] [1, 2, 3, 4, 5, 6, 7, 8] (.ref (clA K 7)) pb_Forever pc_Forever,
  isiB K (clA K) ["int", "bool", "str", "tuple", "list", "dict", "NoneType"] [1, 2, 3, 4, 5, 6, 7, 8] (.ref (clA K 3)) pb_Go pc_Go,
  isiB K (clA K) ["int", "bool", "str", "tuple", "list", "dict", "NoneType"] [1, 2, 3, 4, 5, 6, 7, 8] (.ref (clA K 5)) pb_If pc_If,
  isiB K (clA K) ["int", "bool", "str", "tuple", "list", "dict", "NoneType"] [1, 2, 3, 4, 5, 6, 7, 8] (.ref (clA K 10)) pb_Loop pc_Loop,
  isiB K (clA K) ["int", "bool", "str", "tuple", "list", "dict", "NoneType"] [1, 2, 3, 4, 5, 6, 7, 8] (.ref (clA K 0)) pb_Program pc_Program,
  isiB K (clA K) ["int", "bool", "str", "tuple", "list", "dict", "NoneType"] [1, 2, 3, 4, 5, 6, 7, 8] (.ref (clA K 2)) pb_Return pc_Return,
  isiB K (clA K) ["int", "bool", "str", "tuple", "list", "dict", "NoneType"] [1, 2, 3, 4, 5, 6, 7, 8] (.ref (clA K 8)) pb_Row pc_Row,
  isiB K (clA K) ["int", "bool", "str", "tuple", "list", "dict", "NoneType"] [1, 2, 3, 4, 5, 6, 7, 8] (.ref (clA K 6)) pb_While pc_While,
  isiB K (clA K) ["int", "bool", "str", "tuple", "list", "dict", "NoneType"] [1, 2, 3, 4, 5, 6, 7, 8] (.type "bool") pb_bool pc_bool,
  isiB K (clA K) ["int", "bool", "str", "tuple", "list", "dict", "NoneType"] [1, 2, 3, 4, 5, 6, 7, 8] (.type "int") pb_int pc_int,
  isiB K (clA K) ["int", "bool", "str", "tuple", "list", "dict", "NoneType"] [1, 2, 3, 4, 5, 6, 7, 8] (.type "str") pb_str pc_str,
  isiB K (clA K) ["int", "bool", "str", "tuple", "list", "dict", "NoneType"] [1, 2, 3, 4, 5, 6, 7, 8] (.type "tuple") pb_tuple pc_tuple]
def txtB (K : PySem.W.Frag) : Bool := (checks K).all id
theorem ckd {K : PySem.W.Frag} (h : txtB K = true) (i : Nat) {b : Bool} (e : (checks K)[i]? = some b) : b = true := List.all_eq_true.mp h b (List.mem_of_getElem? e)
theorem okL {c : Nat} (h : okP c = true) : c ∈ [1, 2, 3, 4, 5, 6, 7, 8] := by
  simp only [okP, Bool.and_eq_true, decide_eq_true_eq] at h
  simp
  omega
theorem okTL {t : String} (h : okT t = true) : t ∈ ["int", "bool", "str", "tuple", "list", "dict", "NoneType"] := by
  simpa [okT, or_assoc] using h
theorem pcL {c : Nat} {o : Option Bool} {k : Bool} (h : (if okP c = true then o else none) = some k) : c ∈ [1, 2, 3, 4, 5, 6, 7, 8] := by
  split at h
  · exact okL (by assumption)
  · cases h
theorem pbC {t : String} {o : Option Bool} {k : Bool} (h : (if okT t = true then o else none) = some k) : t ∈ ["int", "bool", "str", "tuple", "list", "dict", "NoneType"] := by
  split at h
  · exact okTL (by assumption)
  · cases h
theorem pbL_bool : ∀ T k, pb_bool T = some k → T ∈ ["int", "bool", "str", "tuple", "list", "dict", "NoneType"] := by
  intro T k e
  unfold pb_bool at e
  repeat' split at e
  all_goals first
    | (cases e; done)
    | (subst_vars; simp; done)
    | simp_all
theorem pbL_int : ∀ T k, pb_int T = some k → T ∈ ["int", "bool", "str", "tuple", "list", "dict", "NoneType"] := by
  intro T k e
  unfold pb_int at e
  repeat' split at e
  all_goals first
    | (cases e; done)
    | (subst_vars; simp; done)
    | simp_all
theorem pbL_str : ∀ T k, pb_str T = some k → T ∈ ["int", "bool", "str", "tuple", "list", "dict", "NoneType"] := by
  intro T k e
  unfold pb_str at e
  repeat' split at e
  all_goals first
    | (cases e; done)
    | (subst_vars; simp; done)
    | simp_all
theorem pbL_tuple : ∀ T k, pb_tuple T = some k → T ∈ ["int", "bool", "str", "tuple", "list", "dict", "NoneType"] := by
  intro T k e
  unfold pb_tuple at e
  repeat' split at e
  all_goals first
    | (cases e; done)
    | (subst_vars; simp; done)
    | simp_all
theorem txt_of {K : PySem.W.Frag} {h : Heap} {mg : Str → Option Value} (X : K.In h) (G : h.Ns mainGlobals mg) (c : txtB K = true) (hf : (adrs K).map (fnWA K) = vals) : ∃ T : Txt K mg, T.cl = clA K ∧ T.a_law = A_law K ∧ ∀ (s : Shared) (v : Value), BindsTo s T.d_law ⟨[v], []⟩ [("_law_script", v)] := by
  obtain ⟨d_told, F_told⟩ := funD_of (st := s_told) (Option.some.inj (show some (fnWA K (A_told K)) = some (fnVal "told" "Program.told" s_told) from congrArg (fun l => l[0]?) hf)) (ckd c 0 rfl)
  obtain ⟨d_s_Program_of, F_s_Program_of⟩ := funD_of (st := s_s_Program_of) (Option.some.inj (show some (fnWA K (A_s_Program_of K)) = some (fnVal "of" "Program.of" s_s_Program_of) from congrArg (fun l => l[1]?) hf)) (ckd c 1 rfl)
  obtain ⟨d_plen, F_plen⟩ := funD_of (st := s_plen) (Option.some.inj (show some (fnWA K (A_plen K)) = some (fnVal "__len__" "Program.__len__" s_plen) from congrArg (fun l => l[2]?) hf)) (ckd c 2 rfl)
  obtain ⟨d_peq, F_peq⟩ := funD_of (st := s_peq) (Option.some.inj (show some (fnWA K (A_peq K)) = some (fnVal "__eq__" "Program.__eq__" s_peq) from congrArg (fun l => l[3]?) hf)) (ckd c 3 rfl)
  obtain ⟨d_padd, F_padd⟩ := funD_of (st := s_padd) (Option.some.inj (show some (fnWA K (A_padd K)) = some (fnVal "__add__" "Program.__add__" s_padd) from congrArg (fun l => l[4]?) hf)) (ckd c 4 rfl)
  obtain ⟨d_pmul, F_pmul⟩ := funD_of (st := s_pmul) (Option.some.inj (show some (fnWA K (A_pmul K)) = some (fnVal "__mul__" "Program.__mul__" s_pmul) from congrArg (fun l => l[5]?) hf)) (ckd c 5 rfl)
  obtain ⟨d_i_Do, F_i_Do⟩ := funD_of (st := s_i_Do) (Option.some.inj (show some (fnWA K (A_i_Do K)) = some (fnVal "__init__" "Do.__init__" s_i_Do) from congrArg (fun l => l[6]?) hf)) (ckd c 6 rfl)
  obtain ⟨d_i_Return, F_i_Return⟩ := funD_of (st := s_i_Return) (Option.some.inj (show some (fnWA K (A_i_Return K)) = some (fnVal "__init__" "Return.__init__" s_i_Return) from congrArg (fun l => l[7]?) hf)) (ckd c 7 rfl)
  obtain ⟨d_i_Go, F_i_Go⟩ := funD_of (st := s_i_Go) (Option.some.inj (show some (fnWA K (A_i_Go K)) = some (fnVal "__init__" "Go.__init__" s_i_Go) from congrArg (fun l => l[8]?) hf)) (ckd c 8 rfl)
  obtain ⟨d_i_End, F_i_End⟩ := funD_of (st := s_i_End) (Option.some.inj (show some (fnWA K (A_i_End K)) = some (fnVal "__init__" "End.__init__" s_i_End) from congrArg (fun l => l[9]?) hf)) (ckd c 9 rfl)
  obtain ⟨d_i_If, F_i_If⟩ := funD_of (st := s_i_If) (Option.some.inj (show some (fnWA K (A_i_If K)) = some (fnVal "__init__" "If.__init__" s_i_If) from congrArg (fun l => l[10]?) hf)) (ckd c 10 rfl)
  obtain ⟨d_i_While, F_i_While⟩ := funD_of (st := s_i_While) (Option.some.inj (show some (fnWA K (A_i_While K)) = some (fnVal "__init__" "While.__init__" s_i_While) from congrArg (fun l => l[11]?) hf)) (ckd c 11 rfl)
  obtain ⟨d_i_Forever, F_i_Forever⟩ := funD_of (st := s_i_Forever) (Option.some.inj (show some (fnWA K (A_i_Forever K)) = some (fnVal "__init__" "Forever.__init__" s_i_Forever) from congrArg (fun l => l[12]?) hf)) (ckd c 12 rfl)
  obtain ⟨d_i_Row, F_i_Row⟩ := funD_of (st := s_i_Row) (Option.some.inj (show some (fnWA K (A_i_Row K)) = some (fnVal "__init__" "Row.__init__" s_i_Row) from congrArg (fun l => l[13]?) hf)) (ckd c 13 rfl)
  obtain ⟨d_is_number, F_is_number⟩ := funD_of (st := s_is_number) (Option.some.inj (show some (fnWA K (A_is_number K)) = some (fnVal "is_number" "is_number" s_is_number) from congrArg (fun l => l[14]?) hf)) (ckd c 14 rfl)
  obtain ⟨d_is_name, F_is_name⟩ := funD_of (st := s_is_name) (Option.some.inj (show some (fnWA K (A_is_name K)) = some (fnVal "is_name" "is_name" s_is_name) from congrArg (fun l => l[15]?) hf)) (ckd c 16 rfl)
  obtain ⟨d_sized, F_sized⟩ := funD_of (st := s_sized) (Option.some.inj (show some (fnWA K (A_sized K)) = some (fnVal "sized" "sized" s_sized) from congrArg (fun l => l[16]?) hf)) (ckd c 18 rfl)
  obtain ⟨d_need_program, F_need_program⟩ := funD_of (st := s_need_program) (Option.some.inj (show some (fnWA K (A_need_program K)) = some (fnVal "need_program" "need_program" s_need_program) from congrArg (fun l => l[17]?) hf)) (ckd c 20 rfl)
  obtain ⟨d_need_name, F_need_name⟩ := funD_of (st := s_need_name) (Option.some.inj (show some (fnWA K (A_need_name K)) = some (fnVal "need_name" "need_name" s_need_name) from congrArg (fun l => l[18]?) hf)) (ckd c 22 rfl)
  obtain ⟨d_parts_of, F_parts_of⟩ := funD_of (st := s_parts_of) (Option.some.inj (show some (fnWA K (A_parts_of K)) = some (fnVal "parts_of" "parts_of" s_parts_of) from congrArg (fun l => l[19]?) hf)) (ckd c 24 rfl)
  obtain ⟨d_made_end, F_made_end⟩ := funD_of (st := s_made_end) (Option.some.inj (show some (fnWA K (A_made_end K)) = some (fnVal "made_end" "made_end" s_made_end) from congrArg (fun l => l[20]?) hf)) (ckd c 26 rfl)
  obtain ⟨d_made, F_made⟩ := funD_of (st := s_made) (Option.some.inj (show some (fnWA K (A_made K)) = some (fnVal "made" "made" s_made) from congrArg (fun l => l[21]?) hf)) (ckd c 28 rfl)
  obtain ⟨d_L_begin, F_L_begin⟩ := funD_of (st := s_L_begin) (Option.some.inj (show some (fnWA K (A_L_begin K)) = some (fnVal "_law_begin" "_law_begin" s_L_begin) from congrArg (fun l => l[22]?) hf)) (ckd c 30 rfl)
  obtain ⟨d_L_draw, F_L_draw⟩ := funD_of (st := s_L_draw) (Option.some.inj (show some (fnWA K (A_L_draw K)) = some (fnVal "_law_draw" "_law_draw" s_L_draw) from congrArg (fun l => l[23]?) hf)) (ckd c 32 rfl)
  obtain ⟨d_L_pick, F_L_pick⟩ := funD_of (st := s_L_pick) (Option.some.inj (show some (fnWA K (A_L_pick K)) = some (fnVal "_law_pick" "_law_pick" s_L_pick) from congrArg (fun l => l[24]?) hf)) (ckd c 34 rfl)
  obtain ⟨d_L_rounds, F_L_rounds⟩ := funD_of (st := s_L_rounds) (Option.some.inj (show some (fnWA K (A_L_rounds K)) = some (fnVal "_law_rounds" "_law_rounds" s_L_rounds) from congrArg (fun l => l[25]?) hf)) (ckd c 36 rfl)
  obtain ⟨d_L_kept, F_L_kept⟩ := funD_of (st := s_L_kept) (Option.some.inj (show some (fnWA K (A_L_kept K)) = some (fnVal "_law_kept" "_law_kept" s_L_kept) from congrArg (fun l => l[26]?) hf)) (ckd c 38 rfl)
  obtain ⟨d_L_name, F_L_name⟩ := funD_of (st := s_L_name) (Option.some.inj (show some (fnWA K (A_L_name K)) = some (fnVal "_law_name" "_law_name" s_L_name) from congrArg (fun l => l[27]?) hf)) (ckd c 40 rfl)
  obtain ⟨d_L_kit, F_L_kit⟩ := funD_of (st := s_L_kit) (Option.some.inj (show some (fnWA K (A_L_kit K)) = some (fnVal "_law_kit" "_law_kit" s_L_kit) from congrArg (fun l => l[28]?) hf)) (ckd c 42 rfl)
  obtain ⟨d_L_last, F_L_last⟩ := funD_of (st := s_L_last) (Option.some.inj (show some (fnWA K (A_L_last K)) = some (fnVal "_law_last" "_law_last" s_L_last) from congrArg (fun l => l[29]?) hf)) (ckd c 44 rfl)
  obtain ⟨d_L_part, F_L_part⟩ := funD_of (st := s_L_part) (Option.some.inj (show some (fnWA K (A_L_part K)) = some (fnVal "_law_part" "_law_part" s_L_part) from congrArg (fun l => l[30]?) hf)) (ckd c 46 rfl)
  obtain ⟨d_L_told, F_L_told⟩ := funD_of (st := s_L_told) (Option.some.inj (show some (fnWA K (A_L_told K)) = some (fnVal "_law_told" "_law_told" s_L_told) from congrArg (fun l => l[31]?) hf)) (ckd c 48 rfl)
  obtain ⟨d_L_insides, F_L_insides⟩ := funD_of (st := s_L_insides) (Option.some.inj (show some (fnWA K (A_L_insides K)) = some (fnVal "_law_insides" "_law_insides" s_L_insides) from congrArg (fun l => l[32]?) hf)) (ckd c 50 rfl)
  obtain ⟨d_L_many, F_L_many⟩ := funD_of (st := s_L_many) (Option.some.inj (show some (fnWA K (A_L_many K)) = some (fnVal "_law_many" "_law_many" s_L_many) from congrArg (fun l => l[33]?) hf)) (ckd c 52 rfl)
  obtain ⟨d_L_joined, F_L_joined⟩ := funD_of (st := s_L_joined) (Option.some.inj (show some (fnWA K (A_L_joined K)) = some (fnVal "_law_joined" "_law_joined" s_L_joined) from congrArg (fun l => l[34]?) hf)) (ckd c 54 rfl)
  obtain ⟨d_L_built, F_L_built⟩ := funD_of (st := s_L_built) (Option.some.inj (show some (fnWA K (A_L_built K)) = some (fnVal "_law_built" "_law_built" s_L_built) from congrArg (fun l => l[35]?) hf)) (ckd c 56 rfl)
  obtain ⟨d_L_loosened, F_L_loosened⟩ := funD_of (st := s_L_loosened) (Option.some.inj (show some (fnWA K (A_L_loosened K)) = some (fnVal "_law_loosened" "_law_loosened" s_L_loosened) from congrArg (fun l => l[36]?) hf)) (ckd c 58 rfl)
  obtain ⟨d_L_other, F_L_other⟩ := funD_of (st := s_L_other) (Option.some.inj (show some (fnWA K (A_L_other K)) = some (fnVal "_law_other" "_law_other" s_L_other) from congrArg (fun l => l[37]?) hf)) (ckd c 60 rfl)
  obtain ⟨d_L_class_right, F_L_class_right⟩ := funD_of (st := s_L_class_right) (Option.some.inj (show some (fnWA K (A_L_class_right K)) = some (fnVal "_law_class_right" "_law_class_right" s_L_class_right) from congrArg (fun l => l[38]?) hf)) (ckd c 62 rfl)
  obtain ⟨d_L_is, F_L_is⟩ := funD_of (st := s_L_is) (Option.some.inj (show some (fnWA K (A_L_is K)) = some (fnVal "_law_is" "_law_is" s_L_is) from congrArg (fun l => l[39]?) hf)) (ckd c 64 rfl)
  obtain ⟨d_L_strange, F_L_strange⟩ := funD_of (st := s_L_strange) (Option.some.inj (show some (fnWA K (A_L_strange K)) = some (fnVal "_law_strange" "_law_strange" s_L_strange) from congrArg (fun l => l[40]?) hf)) (ckd c 66 rfl)
  obtain ⟨d_law, F_law⟩ := funD_of (st := s_law) (Option.some.inj (show some (fnWA K (A_law K)) = some (fnVal "law" "law" s_law) from congrArg (fun l => l[41]?) hf)) (ckd c 68 rfl)
  have b_told : Binds K d_told p_told [] := (fun_noD F_told).binds fun _ _ _ _ _ _ us hl => match us, hl with | [_], _ => rfl
  have b_s_Program_of : Binds K d_s_Program_of p_s_Program_of [] := (fun_noD F_s_Program_of).binds fun _ _ _ _ _ _ us hl => match us, hl with | [_], _ => rfl
  have b_plen : Binds K d_plen p_plen [] := (fun_noD F_plen).binds fun _ _ _ _ _ _ us hl => match us, hl with | [_], _ => rfl
  have b_peq : Binds K d_peq p_peq [] := (fun_noD F_peq).binds fun _ _ _ _ _ _ us hl => match us, hl with | [_, _], _ => rfl
  have b_padd : Binds K d_padd p_padd [] := (fun_noD F_padd).binds fun _ _ _ _ _ _ us hl => match us, hl with | [_, _], _ => rfl
  have b_pmul : Binds K d_pmul p_pmul [] := (fun_noD F_pmul).binds fun _ _ _ _ _ _ us hl => match us, hl with | [_, _], _ => rfl
  have b_i_Do : Binds K d_i_Do p_i_Do [] := (fun_noD F_i_Do).binds fun _ _ _ _ _ _ us hl => match us, hl with | [_, _], _ => rfl
  have b_i_Return : Binds K d_i_Return p_i_Return [] := (fun_noD F_i_Return).binds fun _ _ _ _ _ _ us hl => match us, hl with | [_, _], _ => rfl
  have b_i_Go : Binds K d_i_Go p_i_Go [] := (fun_noD F_i_Go).binds fun _ _ _ _ _ _ us hl => match us, hl with | [_, _], _ => rfl
  have b_i_End : Binds K d_i_End p_i_End [] := (fun_noD F_i_End).binds fun _ _ _ _ _ _ us hl => match us, hl with | [_], _ => rfl
  have b_i_If : Binds K d_i_If p_i_If [] := (fun_noD F_i_If).binds fun _ _ _ _ _ _ us hl => match us, hl with | [_, _, _, _], _ => rfl
  have b_i_While : Binds K d_i_While p_i_While [] := by
    obtain ⟨ds, r, b⟩ := FunD.binds1 F_i_While (ps := p_i_While) 4 1 (by simp) rfl fun T kV doc pm an cdv ct us its h1 h2 => match us, h1, its, h2 with | [_, _, _, _], _, [_], _ => ⟨_, rfl, rfl⟩
    cases r
    exact b
  have bd_i_While : Binds K d_i_While p_i_While [.bool true] := by
    obtain ⟨ds, r, b⟩ := FunD.binds1 F_i_While (ps := p_i_While) 3 0 (by simp) rfl fun T kV doc pm an cdv ct us its h1 h2 => match us, h1, its, h2 with | [_, _, _], _, [_], _ => ⟨_, rfl, rfl⟩
    cases r with
    | cons r1 r2 =>
      cases r2
      cases (show _ = Value.bool true from r1)
      exact b
  have b_i_Forever : Binds K d_i_Forever p_i_Forever [] := (fun_noD F_i_Forever).binds fun _ _ _ _ _ _ us hl => match us, hl with | [_, _], _ => rfl
  have b_i_Row : Binds K d_i_Row p_i_Row [] := (fun_noD F_i_Row).binds fun _ _ _ _ _ _ us hl => match us, hl with | [_, _], _ => rfl
  have b_is_number : Binds K d_is_number p_is_number [] := (fun_noD F_is_number).binds fun _ _ _ _ _ _ us hl => match us, hl with | [_], _ => rfl
  have b_is_name : Binds K d_is_name p_is_name [] := (fun_noD F_is_name).binds fun _ _ _ _ _ _ us hl => match us, hl with | [_], _ => rfl
  have b_sized : Binds K d_sized p_sized [] := (fun_noD F_sized).binds fun _ _ _ _ _ _ us hl => match us, hl with | [_, _, _], _ => rfl
  have b_need_program : Binds K d_need_program p_need_program [] := (fun_noD F_need_program).binds fun _ _ _ _ _ _ us hl => match us, hl with | [_], _ => rfl
  have b_need_name : Binds K d_need_name p_need_name [] := (fun_noD F_need_name).binds fun _ _ _ _ _ _ us hl => match us, hl with | [_], _ => rfl
  have b_parts_of : Binds K d_parts_of p_parts_of [] := (fun_noD F_parts_of).binds fun _ _ _ _ _ _ us hl => match us, hl with | [_], _ => rfl
  have b_made_end : Binds K d_made_end p_made_end [] := (fun_noD F_made_end).binds fun _ _ _ _ _ _ us hl => match us, hl with | [_], _ => rfl
  have b_made : Binds K d_made p_made [] := (fun_noD F_made).binds fun _ _ _ _ _ _ us hl => match us, hl with | [_], _ => rfl
  have b_L_begin : Binds K d_L_begin p_L_begin [] := (fun_noD F_L_begin).binds fun _ _ _ _ _ _ us hl => match us, hl with | [_], _ => rfl
  have b_L_draw : Binds K d_L_draw p_L_draw [] := (fun_noD F_L_draw).binds fun _ _ _ _ _ _ us hl => match us, hl with | [_, _], _ => rfl
  have b_L_pick : Binds K d_L_pick p_L_pick [] := (fun_noD F_L_pick).binds fun _ _ _ _ _ _ us hl => match us, hl with | [_, _], _ => rfl
  have b_L_rounds : Binds K d_L_rounds p_L_rounds [] := (fun_noD F_L_rounds).binds fun _ _ _ _ _ _ us hl => match us, hl with | [_, _, _], _ => rfl
  have b_L_kept : Binds K d_L_kept p_L_kept [] := (fun_noD F_L_kept).binds fun _ _ _ _ _ _ us hl => match us, hl with | [], _ => rfl
  have b_L_name : Binds K d_L_name p_L_name [] := (fun_noD F_L_name).binds fun _ _ _ _ _ _ us hl => match us, hl with | [_], _ => rfl
  have b_L_kit : Binds K d_L_kit p_L_kit [] := (fun_noD F_L_kit).binds fun _ _ _ _ _ _ us hl => match us, hl with | [_, _, _], _ => rfl
  have b_L_last : Binds K d_L_last p_L_last [] := (fun_noD F_L_last).binds fun _ _ _ _ _ _ us hl => match us, hl with | [_, _], _ => rfl
  have b_L_part : Binds K d_L_part p_L_part [] := (fun_noD F_L_part).binds fun _ _ _ _ _ _ us hl => match us, hl with | [_, _, _], _ => rfl
  have b_L_told : Binds K d_L_told p_L_told [] := (fun_noD F_L_told).binds fun _ _ _ _ _ _ us hl => match us, hl with | [_, _, _], _ => rfl
  have b_L_insides : Binds K d_L_insides p_L_insides [] := (fun_noD F_L_insides).binds fun _ _ _ _ _ _ us hl => match us, hl with | [_], _ => rfl
  have b_L_many : Binds K d_L_many p_L_many [] := (fun_noD F_L_many).binds fun _ _ _ _ _ _ us hl => match us, hl with | [_], _ => rfl
  have b_L_joined : Binds K d_L_joined p_L_joined [] := (fun_noD F_L_joined).binds fun _ _ _ _ _ _ us hl => match us, hl with | [_], _ => rfl
  have b_L_built : Binds K d_L_built p_L_built [] := (fun_noD F_L_built).binds fun _ _ _ _ _ _ us hl => match us, hl with | [_], _ => rfl
  have b_L_loosened : Binds K d_L_loosened p_L_loosened [] := (fun_noD F_L_loosened).binds fun _ _ _ _ _ _ us hl => match us, hl with | [_, _], _ => rfl
  have b_L_other : Binds K d_L_other p_L_other [] := (fun_noD F_L_other).binds fun _ _ _ _ _ _ us hl => match us, hl with | [_, _], _ => rfl
  have b_L_class_right : Binds K d_L_class_right p_L_class_right [] := (fun_noD F_L_class_right).binds fun _ _ _ _ _ _ us hl => match us, hl with | [_, _], _ => rfl
  have b_L_is : Binds K d_L_is p_L_is [] := (fun_noD F_L_is).binds fun _ _ _ _ _ _ us hl => match us, hl with | [_, _], _ => rfl
  have b_L_strange : Binds K d_L_strange p_L_strange [] := (fun_noD F_L_strange).binds fun _ _ _ _ _ _ us hl => match us, hl with | [_, _], _ => rfl
  have b_law : Binds K d_law p_law [] := (fun_noD F_law).binds fun _ _ _ _ _ _ us hl => match us, hl with | [_], _ => rfl
  refine ⟨{
    cl := clA K,
    a_told := A_told K, d_told := d_told, F_told := fun_noD F_told, k_told := F_told.kp, b_told := b_told,
    a_s_Program_of := A_s_Program_of K, d_s_Program_of := d_s_Program_of, F_s_Program_of := fun_noD F_s_Program_of, k_s_Program_of := F_s_Program_of.kp, b_s_Program_of := b_s_Program_of,
    a_plen := A_plen K, d_plen := d_plen, F_plen := fun_noD F_plen, k_plen := F_plen.kp, b_plen := b_plen,
    a_peq := A_peq K, d_peq := d_peq, F_peq := fun_noD F_peq, k_peq := F_peq.kp, b_peq := b_peq,
    a_padd := A_padd K, d_padd := d_padd, F_padd := fun_noD F_padd, k_padd := F_padd.kp, b_padd := b_padd,
    a_pmul := A_pmul K, d_pmul := d_pmul, F_pmul := fun_noD F_pmul, k_pmul := F_pmul.kp, b_pmul := b_pmul,
    a_i_Do := A_i_Do K, d_i_Do := d_i_Do, F_i_Do := fun_noD F_i_Do, k_i_Do := F_i_Do.kp, b_i_Do := b_i_Do,
    a_i_Return := A_i_Return K, d_i_Return := d_i_Return, F_i_Return := fun_noD F_i_Return, k_i_Return := F_i_Return.kp, b_i_Return := b_i_Return,
    a_i_Go := A_i_Go K, d_i_Go := d_i_Go, F_i_Go := fun_noD F_i_Go, k_i_Go := F_i_Go.kp, b_i_Go := b_i_Go,
    a_i_End := A_i_End K, d_i_End := d_i_End, F_i_End := fun_noD F_i_End, k_i_End := F_i_End.kp, b_i_End := b_i_End,
    a_i_If := A_i_If K, d_i_If := d_i_If, F_i_If := fun_noD F_i_If, k_i_If := F_i_If.kp, b_i_If := b_i_If,
    a_i_While := A_i_While K, d_i_While := d_i_While, F_i_While := F_i_While, k_i_While := F_i_While.kp, b_i_While := b_i_While, bd_i_While := bd_i_While,
    a_i_Forever := A_i_Forever K, d_i_Forever := d_i_Forever, F_i_Forever := fun_noD F_i_Forever, k_i_Forever := F_i_Forever.kp, b_i_Forever := b_i_Forever,
    a_i_Row := A_i_Row K, d_i_Row := d_i_Row, F_i_Row := fun_noD F_i_Row, k_i_Row := F_i_Row.kp, b_i_Row := b_i_Row,
    a_is_number := A_is_number K, d_is_number := d_is_number, F_is_number := fun_noD F_is_number, m_is_number := gloB_ok X G (ckd c 15 rfl), k_is_number := F_is_number.kp, b_is_number := b_is_number,
    a_is_name := A_is_name K, d_is_name := d_is_name, F_is_name := fun_noD F_is_name, m_is_name := gloB_ok X G (ckd c 17 rfl), k_is_name := F_is_name.kp, b_is_name := b_is_name,
    a_sized := A_sized K, d_sized := d_sized, F_sized := fun_noD F_sized, m_sized := gloB_ok X G (ckd c 19 rfl), k_sized := F_sized.kp, b_sized := b_sized,
    a_need_program := A_need_program K, d_need_program := d_need_program, F_need_program := fun_noD F_need_program, m_need_program := gloB_ok X G (ckd c 21 rfl), k_need_program := F_need_program.kp, b_need_program := b_need_program,
    a_need_name := A_need_name K, d_need_name := d_need_name, F_need_name := fun_noD F_need_name, m_need_name := gloB_ok X G (ckd c 23 rfl), k_need_name := F_need_name.kp, b_need_name := b_need_name,
    a_parts_of := A_parts_of K, d_parts_of := d_parts_of, F_parts_of := fun_noD F_parts_of, m_parts_of := gloB_ok X G (ckd c 25 rfl), k_parts_of := F_parts_of.kp, b_parts_of := b_parts_of,
    a_made_end := A_made_end K, d_made_end := d_made_end, F_made_end := fun_noD F_made_end, m_made_end := gloB_ok X G (ckd c 27 rfl), k_made_end := F_made_end.kp, b_made_end := b_made_end,
    a_made := A_made K, d_made := d_made, F_made := fun_noD F_made, m_made := gloB_ok X G (ckd c 29 rfl), k_made := F_made.kp, b_made := b_made,
    a_L_begin := A_L_begin K, d_L_begin := d_L_begin, F_L_begin := fun_noD F_L_begin, m_L_begin := gloB_ok X G (ckd c 31 rfl), k_L_begin := F_L_begin.kp, b_L_begin := b_L_begin,
    a_L_draw := A_L_draw K, d_L_draw := d_L_draw, F_L_draw := fun_noD F_L_draw, m_L_draw := gloB_ok X G (ckd c 33 rfl), k_L_draw := F_L_draw.kp, b_L_draw := b_L_draw,
    a_L_pick := A_L_pick K, d_L_pick := d_L_pick, F_L_pick := fun_noD F_L_pick, m_L_pick := gloB_ok X G (ckd c 35 rfl), k_L_pick := F_L_pick.kp, b_L_pick := b_L_pick,
    a_L_rounds := A_L_rounds K, d_L_rounds := d_L_rounds, F_L_rounds := fun_noD F_L_rounds, m_L_rounds := gloB_ok X G (ckd c 37 rfl), k_L_rounds := F_L_rounds.kp, b_L_rounds := b_L_rounds,
    a_L_kept := A_L_kept K, d_L_kept := d_L_kept, F_L_kept := fun_noD F_L_kept, m_L_kept := gloB_ok X G (ckd c 39 rfl), k_L_kept := F_L_kept.kp, b_L_kept := b_L_kept,
    a_L_name := A_L_name K, d_L_name := d_L_name, F_L_name := fun_noD F_L_name, m_L_name := gloB_ok X G (ckd c 41 rfl), k_L_name := F_L_name.kp, b_L_name := b_L_name,
    a_L_kit := A_L_kit K, d_L_kit := d_L_kit, F_L_kit := fun_noD F_L_kit, m_L_kit := gloB_ok X G (ckd c 43 rfl), k_L_kit := F_L_kit.kp, b_L_kit := b_L_kit,
    a_L_last := A_L_last K, d_L_last := d_L_last, F_L_last := fun_noD F_L_last, m_L_last := gloB_ok X G (ckd c 45 rfl), k_L_last := F_L_last.kp, b_L_last := b_L_last,
    a_L_part := A_L_part K, d_L_part := d_L_part, F_L_part := fun_noD F_L_part, m_L_part := gloB_ok X G (ckd c 47 rfl), k_L_part := F_L_part.kp, b_L_part := b_L_part,
    a_L_told := A_L_told K, d_L_told := d_L_told, F_L_told := fun_noD F_L_told, m_L_told := gloB_ok X G (ckd c 49 rfl), k_L_told := F_L_told.kp, b_L_told := b_L_told,
    a_L_insides := A_L_insides K, d_L_insides := d_L_insides, F_L_insides := fun_noD F_L_insides, m_L_insides := gloB_ok X G (ckd c 51 rfl), k_L_insides := F_L_insides.kp, b_L_insides := b_L_insides,
    a_L_many := A_L_many K, d_L_many := d_L_many, F_L_many := fun_noD F_L_many, m_L_many := gloB_ok X G (ckd c 53 rfl), k_L_many := F_L_many.kp, b_L_many := b_L_many,
    a_L_joined := A_L_joined K, d_L_joined := d_L_joined, F_L_joined := fun_noD F_L_joined, m_L_joined := gloB_ok X G (ckd c 55 rfl), k_L_joined := F_L_joined.kp, b_L_joined := b_L_joined,
    a_L_built := A_L_built K, d_L_built := d_L_built, F_L_built := fun_noD F_L_built, m_L_built := gloB_ok X G (ckd c 57 rfl), k_L_built := F_L_built.kp, b_L_built := b_L_built,
    a_L_loosened := A_L_loosened K, d_L_loosened := d_L_loosened, F_L_loosened := fun_noD F_L_loosened, m_L_loosened := gloB_ok X G (ckd c 59 rfl), k_L_loosened := F_L_loosened.kp, b_L_loosened := b_L_loosened,
    a_L_other := A_L_other K, d_L_other := d_L_other, F_L_other := fun_noD F_L_other, m_L_other := gloB_ok X G (ckd c 61 rfl), k_L_other := F_L_other.kp, b_L_other := b_L_other,
    a_L_class_right := A_L_class_right K, d_L_class_right := d_L_class_right, F_L_class_right := fun_noD F_L_class_right, m_L_class_right := gloB_ok X G (ckd c 63 rfl), k_L_class_right := F_L_class_right.kp, b_L_class_right := b_L_class_right,
    a_L_is := A_L_is K, d_L_is := d_L_is, F_L_is := fun_noD F_L_is, m_L_is := gloB_ok X G (ckd c 65 rfl), k_L_is := F_L_is.kp, b_L_is := b_L_is,
    a_L_strange := A_L_strange K, d_L_strange := d_L_strange, F_L_strange := fun_noD F_L_strange, m_L_strange := gloB_ok X G (ckd c 67 rfl), k_L_strange := F_L_strange.kp, b_L_strange := b_L_strange,
    a_law := A_law K, d_law := d_law, F_law := fun_noD F_law, m_law := gloB_ok X G (ckd c 69 rfl), k_law := F_law.kp, b_law := b_law,
    n_abs := freeB_ok X G (ckd c 70 rfl),
    n_all := freeB_ok X G (ckd c 71 rfl),
    n_bool := freeB_ok X G (ckd c 72 rfl),
    n_int := freeB_ok X G (ckd c 73 rfl),
    n_isinstance := freeB_ok X G (ckd c 74 rfl),
    n_len := freeB_ok X G (ckd c 75 rfl),
    n_list := freeB_ok X G (ckd c 76 rfl),
    n_max := freeB_ok X G (ckd c 77 rfl),
    n_min := freeB_ok X G (ckd c 78 rfl),
    n_range := freeB_ok X G (ckd c 79 rfl),
    n_repr := freeB_ok X G (ckd c 80 rfl),
    n_str := freeB_ok X G (ckd c 81 rfl),
    n_sum := freeB_ok X G (ckd c 82 rfl),
    n_tuple := freeB_ok X G (ckd c 83 rfl),
    v_DEEPEST := valV (gVal K "DEEPEST"), c_DEEPEST := ⟨_, hasG_ok X G (ckd c 84 rfl), (cstB_ok (cl := clA K) k_DEEPEST _ (ckd c 85 rfl)).1⟩, r_DEEPEST := (cstB_ok (cl := clA K) k_DEEPEST _ (ckd c 85 rfl)).2,
    v_KEPT := valV (gVal K "KEPT"), c_KEPT := ⟨_, hasG_ok X G (ckd c 86 rfl), (cstB_ok (cl := clA K) k_KEPT _ (ckd c 87 rfl)).1⟩, r_KEPT := (cstB_ok (cl := clA K) k_KEPT _ (ckd c 87 rfl)).2,
    v_LETTERS := valV (gVal K "LETTERS"), c_LETTERS := ⟨_, hasG_ok X G (ckd c 88 rfl), (cstB_ok (cl := clA K) k_LETTERS _ (ckd c 89 rfl)).1⟩, r_LETTERS := (cstB_ok (cl := clA K) k_LETTERS _ (ckd c 89 rfl)).2,
    v_LONGEST := valV (gVal K "LONGEST"), c_LONGEST := ⟨_, hasG_ok X G (ckd c 90 rfl), (cstB_ok (cl := clA K) k_LONGEST _ (ckd c 91 rfl)).1⟩, r_LONGEST := (cstB_ok (cl := clA K) k_LONGEST _ (ckd c 91 rfl)).2,
    v_MOST_PARTS := valV (gVal K "MOST_PARTS"), c_MOST_PARTS := ⟨_, hasG_ok X G (ckd c 92 rfl), (cstB_ok (cl := clA K) k_MOST_PARTS _ (ckd c 93 rfl)).1⟩, r_MOST_PARTS := (cstB_ok (cl := clA K) k_MOST_PARTS _ (ckd c 93 rfl)).2,
    v_MOST_TIMES := valV (gVal K "MOST_TIMES"), c_MOST_TIMES := ⟨_, hasG_ok X G (ckd c 94 rfl), (cstB_ok (cl := clA K) k_MOST_TIMES _ (ckd c 95 rfl)).1⟩, r_MOST_TIMES := (cstB_ok (cl := clA K) k_MOST_TIMES _ (ckd c 95 rfl)).2,
    v_NOTHING := valV (gVal K "NOTHING"), c_NOTHING := ⟨_, hasG_ok X G (ckd c 96 rfl), (cstB_ok (cl := clA K) k_NOTHING _ (ckd c 97 rfl)).1⟩, r_NOTHING := (cstB_ok (cl := clA K) k_NOTHING _ (ckd c 97 rfl)).2,
    g_Program := gloB_ok X G (ckd c 98 rfl),
    g_Do := gloB_ok X G (ckd c 99 rfl),
    g_Return := gloB_ok X G (ckd c 100 rfl),
    g_Go := gloB_ok X G (ckd c 101 rfl),
    g_End := gloB_ok X G (ckd c 102 rfl),
    g_If := gloB_ok X G (ckd c 103 rfl),
    g_While := gloB_ok X G (ckd c 104 rfl),
    g_Forever := gloB_ok X G (ckd c 105 rfl),
    g_Row := gloB_ok X G (ckd c 106 rfl),
    g_Asking := gloB_ok X G (ckd c 107 rfl),
    g_Loop := gloB_ok X G (ckd c 108 rfl),
    M_Do := mkB_ok (ckd c 109 rfl),
    M_Return := mkB_ok (ckd c 110 rfl),
    M_Go := mkB_ok (ckd c 111 rfl),
    M_End := mkB_ok (ckd c 112 rfl),
    M_If := mkB_ok (ckd c 113 rfl),
    M_While := mkB_ok (ckd c 114 rfl),
    M_Forever := mkB_ok (ckd c 115 rfl),
    M_Row := mkB_ok (ckd c 116 rfl),
    a_held := fun k hk => have q := and2 (List.all_eq_true.mp (ckd c 117 rfl) k (okL hk)); ⟨clsB_ok q.1, noatB_ok q.2⟩,
    p_told := fun k hk => have q := and2 (List.all_eq_true.mp (ckd c 118 rfl) k (okL hk)); ⟨clsB_ok q.1, _, propB_ok q.2⟩,
    l_plen := fun k hk => of_decide_eq_true (List.all_eq_true.mp (ckd c 119 rfl) k (okL hk)), f_plen := ckd c 120 rfl,
    o_padd := binB_ok (fun _ => okL) (ckd c 121 rfl),
    o_pmul := binB_ok (fun _ => okL) (ckd c 122 rfl),
    q_peq := cmpCB_ok (fun _ => okL) (fun _ => okTL) (ckd c 123 rfl),
    sp_s_Program_of := He.ma K (He.ga K "Program") "of", sm_s_Program_of := smB_ok (ckd c 124 rfl),
    i_Asking := isiB_ok (fun T k e => pbC e) (fun _ _ e => pcL e) (ckd c 125 rfl),
    i_Do := isiB_ok (fun T k e => pbC e) (fun _ _ e => pcL e) (ckd c 126 rfl),
    i_End := isiB_ok (fun T k e => pbC e) (fun _ _ e => pcL e) (ckd c 127 rfl),
    i_Forever := isiB_ok (fun T k e => pbC e) (fun _ _ e => pcL e) (ckd c 128 rfl),
    i_Go := isiB_ok (fun T k e => pbC e) (fun _ _ e => pcL e) (ckd c 129 rfl),
    i_If := isiB_ok (fun T k e => pbC e) (fun _ _ e => pcL e) (ckd c 130 rfl),
    i_Loop := isiB_ok (fun T k e => pbC e) (fun _ _ e => pcL e) (ckd c 131 rfl),
    i_Program := isiB_ok (fun T k e => pbC e) (fun _ _ e => pcL e) (ckd c 132 rfl),
    i_Return := isiB_ok (fun T k e => pbC e) (fun _ _ e => pcL e) (ckd c 133 rfl),
    i_Row := isiB_ok (fun T k e => pbC e) (fun _ _ e => pcL e) (ckd c 134 rfl),
    i_While := isiB_ok (fun T k e => pbC e) (fun _ _ e => pcL e) (ckd c 135 rfl),
    i_bool := isiB_ok pbL_bool (fun _ _ e => by cases e) (ckd c 136 rfl),
    i_int := isiB_ok pbL_int (fun _ _ e => by cases e) (ckd c 137 rfl),
    i_str := isiB_ok pbL_str (fun _ _ e => by cases e) (ckd c 138 rfl),
    i_tuple := isiB_ok pbL_tuple (fun _ _ e => by cases e) (ckd c 139 rfl) }, rfl, rfl, ?_⟩
  exact fun s v => by
    obtain ⟨oc, od, kV, doc, pm, an, cdv, ct, osl, e, _⟩ := (fun_noD F_law).ex
    subst e
    exact .of_eq rfl
end K25

set_option maxRecDepth 100000
namespace K25
open DL
@[simp] theorem go_ok {α T : Type} {ex : D → Store → T} {bd : T} {a : α} {S : Store} {f : α → Store → T} : (R.ok a S).go ex bd f = f a S := rfl
@[simp] theorem go_exc {α T : Type} {ex : D → Store → T} {bd : T} {x : D} {S : Store} {f : α → Store → T} : (R.exc x S).go ex bd f = ex x S := rfl
@[simp] theorem go_bad {α T : Type} {ex : D → Store → T} {bd : T} {f : α → Store → T} : (R.bad : R α).go ex bd f = bd := rfl
def stD (cells : List Int) (rest turn : Int) : D := .dk [(.str "large", .obj 0), (.str "cells", .lst (cells.map D.int)), (.str "rest", .int rest), (.str "turn", .int turn)]
def stS (larges cells : List Int) (rest turn : Int) (X : Store) : Store := .lst (larges.map D.int) :: stD cells rest turn :: X
section
variable {larges cells : List Int} {rest turn : Int} {X : Store}
theorem get_at {ρ : Loc} {x : String} {d : D} (h0 : ρ[0]? = some (some (.obj 1, .bor)) ∨ ρ[0]? = some (some (.obj 1, .sh))) (hd : getK [(D.str "large", .obj 0), (.str "cells", .lst (cells.map D.int)), (.str "rest", .int rest), (.str "turn", .int turn)] (.str x) = some d) :
    sOp2 oDGet (sVar 0) (sCst (.str x)) ρ (stS larges cells rest turn X) = .ok (d, .sh) (stS larges cells rest turn X) := by
  rcases h0 with h0 | h0 <;> simp [sOp2, sVar, sCst, h0, R.bind, oDGet, view, stS, stD, dKey, hd, opt]
theorem gl : getK [(D.str "large", .obj 0), (.str "cells", .lst (cells.map D.int)), (.str "rest", .int rest), (.str "turn", .int turn)] (.str "large") = some (.obj 0) := by simp [getK_cons, deq]
theorem gc : getK [(D.str "large", .obj 0), (.str "cells", .lst (cells.map D.int)), (.str "rest", .int rest), (.str "turn", .int turn)] (.str "cells") = some (.lst (cells.map D.int)) := by simp [getK_cons, deq]
theorem gr : getK [(D.str "large", .obj 0), (.str "cells", .lst (cells.map D.int)), (.str "rest", .int rest), (.str "turn", .int turn)] (.str "rest") = some (.int rest) := by simp [getK_cons, deq]
theorem gt : getK [(D.str "large", .obj 0), (.str "cells", .lst (cells.map D.int)), (.str "rest", .int rest), (.str "turn", .int turn)] (.str "turn") = some (.int turn) := by simp [getK_cons, deq]
end
theorem plains_ints (l : List Int) : plains (l.map D.int) = true := by
  induction l with
  | nil => rfl
  | cons a r ih => simpa [plains, plain] using ih
theorem deps_ints (l : List Int) : deps (l.map D.int) = 0 := by
  induction l with
  | nil => rfl
  | cons a r ih => simp [deps, dep, ih]
def refill : List Int → Int → List Int × Int
  | [], r => ([], r)
  | l :: ls, r => if r = 0 then refill ls l else (l :: ls, r)
abbrev sMore : ST := (tAndS (sT (sOp2 oEq (sOp2 oDGet (sVar 0) (sCst (.str "rest"))) (sCst (.int 0)))) (sT (sOp2 oNe (sOp2 oDGet (sVar 0) (sCst (.str "large"))) (sLst sNil))))
abbrev sPull : SS := (sSeq (sPut (sVar 0) (sCst (.str "rest")) (sPopO (sOp2 oDGet (sVar 0) (sCst (.str "large"))) (sCons (sCst (.int 0)) sNil))) sSkip)
theorem more_eq {ρ : Loc} {larges cells : List Int} {rest turn : Int} {X : Store} (h0 : ρ[0]? = some (some (.obj 1, .bor)) ∨ ρ[0]? = some (some (.obj 1, .sh))) :
    sMore ρ (stS larges cells rest turn X) = .ok (decide (rest = 0 ∧ larges ≠ [])) (stS larges cells rest turn X) := by
  have e1 := get_at (turn := turn) (X := X) (larges := larges) h0 (gr (cells := cells) (rest := rest) (turn := turn))
  have e2 := get_at (turn := turn) (X := X) (larges := larges) h0 (gl (cells := cells) (rest := rest) (turn := turn))
  have a1 : sOp2 oEq (sOp2 oDGet (sVar 0) (sCst (.str "rest"))) (sCst (.int 0)) ρ (stS larges cells rest turn X) = .ok (.bl (rest == 0), .sh) (stS larges cells rest turn X) := by
    rw [sOp2, e1]
    simp [R.bind, sCst, oEq, view, plain, dep, deq, opt]
  have a2 : sOp2 oNe (sOp2 oDGet (sVar 0) (sCst (.str "large"))) (sLst sNil) ρ (stS larges cells rest turn X) = .ok (.bl (!deqs (larges.map D.int) []), .sh) (stS larges cells rest turn X) := by
    rw [sOp2, e2]
    simp [R.bind, sLst, sNil, oNe, view, stS, plain, plains, plains_ints, dep, deps_ints, deq, opt]
  unfold sMore tAndS sT
  rw [a1]
  simp only [R.bind, go_ok]
  rw [a2]
  by_cases hr : rest = 0
  · subst hr
    cases larges <;> simp [deqs]
  · simp [hr]
theorem pull_eq {ρ : Loc} {l : Int} {larges cells : List Int} {turn : Int} {X : Store} (hl : (l :: larges).length < 2 ^ 62) (h0 : ρ[0]? = some (some (.obj 1, .bor)) ∨ ρ[0]? = some (some (.obj 1, .sh))) :
    sPull ρ (stS (l :: larges) cells 0 turn X) = .nx ρ (stS larges cells l turn X) := by
  have e2 := get_at (turn := turn) (X := X) (larges := l :: larges) h0 (gl (cells := cells) (rest := 0) (turn := turn))
  unfold sPull sSeq sPut sPopO
  rw [show (sOp2 oDGet (sVar 0) (sCst (.str "large")) ρ (stS (l :: larges) cells 0 turn X)) = _ from e2]
  have v0 : ∀ S : Store, ∃ fl, sVar 0 ρ S = .ok (.obj 1, fl) S := fun S => by
    rcases h0 with h0 | h0
    · exact ⟨.bor, by simp [sVar, h0]⟩
    · exact ⟨.sh, by simp [sVar, h0]⟩
  obtain ⟨fl, ev⟩ := v0 (stS larges cells 0 turn X)
  have hl' : larges.length + 1 < 2 ^ 62 := by simpa using hl
  have ix : L2.ixN (larges.length + 1) 0 = some 0 := by simp [L2.ixN]
  simp [goS, R.bind, stS, sCons, sCst, sNil, ix, hl', sSkip]
  rw [show sVar 0 ρ (.lst (larges.map D.int) :: stD cells 0 turn :: X) = .ok (.obj 1, fl) _ from ev]
  have h4 : (4 : Nat) < PySem.sizeLine := by decide
  simp [leakOk, dKey, setK, deq, stS, stD, box, h4]
theorem loop_eq {ρ : Loc} (h0 : ρ[0]? = some (some (.obj 1, .bor)) ∨ ρ[0]? = some (some (.obj 1, .sh))) : ∀ {larges cells : List Int} {rest turn : Int} {X : Store}, larges.length < 2 ^ 62 →
    sWhile sMore sPull ρ (stS larges cells rest turn X) = .nx ρ (stS (refill larges rest).1 cells (refill larges rest).2 turn X) := by
  intro larges
  induction larges with
  | nil =>
    intro cells rest turn X _
    rw [sWhile_eq, more_eq h0]
    simp [goS, refill]
  | cons l r ih =>
    intro cells rest turn X hl
    rw [sWhile_eq, more_eq h0]
    by_cases hr : rest = 0
    · subst hr
      simp only [goS, go_ok, ne_eq, reduceCtorEq, not_false_eq_true, and_self, decide_true, if_true]
      rw [pull_eq hl h0]
      simp only []
      rw [ih (by simp at hl; omega)]
      simp [refill]
    · simp [goS, refill, hr]
end K25

set_option maxRecDepth 100000
namespace K25
open DL
theorem bits_le {x : Int} {k : Nat} (h : x.natAbs < 2 ^ k) : PySem.Builtin.Int.intBits x ≤ k := by
  unfold PySem.Builtin.Int.intBits
  split
  · exact Nat.zero_le _
  · rename_i h0
    have h1 : x ≠ 0 := by simpa using h0
    have : x.natAbs ≠ 0 := by omega
    have := (Nat.log2_lt this).mpr h
    omega
structure StOk (larges : List Int) (rest turn T : Int) : Prop where
  ls : ∀ x ∈ larges, 0 ≤ x
  len : larges.length < 2 ^ 62
  r : 0 ≤ rest
  t0 : 0 ≤ turn
  t1 : turn ≤ T
theorem refill_ok : ∀ {larges : List Int} {rest : Int}, (∀ x ∈ larges, 0 ≤ x) → 0 ≤ rest → (∀ x ∈ (refill larges rest).1, 0 ≤ x) ∧ 0 ≤ (refill larges rest).2 ∧ (refill larges rest).1.length ≤ larges.length
  | [], r, _, h => ⟨by simp [refill], h, by simp [refill]⟩
  | l :: ls, r, hl, h => by
    unfold refill
    split
    · have := refill_ok (larges := ls) (rest := l) (fun x hx => hl x (List.mem_cons_of_mem _ hx)) (hl l List.mem_cons_self)
      exact ⟨this.1, this.2.1, Nat.le_succ_of_le this.2.2⟩
    · exact ⟨hl, h, Nat.le_refl _⟩
def mix (cell turn size : Int) : Int := (((cell % 2147483629 + 69621 * turn + 12345) ^ 3 % 2147483647 + 104729 * turn) ^ 5 % 2147483587 / 13) % size
theorem ev2 {op : RV → RV → Store → Option RV} {f u : SE} {ρ : Loc} {S S1 S2 : Store} {a b q : RV} (h1 : f ρ S = .ok a S1) (h2 : u ρ S1 = .ok b S2) (h3 : op a b S2 = some q) : sOp2 op f u ρ S = .ok q S2 := by
  simp [sOp2, R.bind, h1, h2, h3, opt]
theorem evI {f : SE} {ρ : Loc} {S S1 : Store} {i : Int} {fl : Fl} (h : f ρ S = .ok (.int i, fl) S1) : sB1 oInt f ρ S = .ok (.int i, .sh) S1 := by
  simp [sB1, sOpN, sCons, sNil, R.bind, h, on1, oInt, opt]
theorem evC {ρ : Loc} {S : Store} {d : D} : sCst d ρ S = .ok (d, .sh) S := rfl
theorem evV {ρ : Loc} {S : Store} {i : Nat} {d : D} (h : ρ[i]? = some (some (d, .sh))) : sVar i ρ S = .ok (d, .sh) S := by simp [sVar, h]
theorem evVb {ρ : Loc} {S : Store} {i : Nat} {d : D} (h : ρ[i]? = some (some (d, .bor))) : sVar i ρ S = .ok (d, .bor) S := by simp [sVar, h]
theorem oMod_eq {i j : Int} {a b : Fl} {S : Store} (h : 0 < j) : oMod (.int i, a) (.int j, b) S = some (.int (i % j), .sh) := by simp [oMod, oII, view, h]
theorem oFdiv_eq {i j : Int} {a b : Fl} {S : Store} (h : 0 < j) (h2 : j.natAbs.log2 < 9000) : oFdiv (.int i, a) (.int j, b) S = some (.int (i / j), .sh) := by simp [oFdiv, oII, view, h, h2]
theorem oPow_eq {i : Int} {n : Nat} {a b : Fl} {S : Store} (h : i.natAbs < 2 ^ 1000) (hn : n ≤ 20) : oPow (.int i, a) (.int n, b) S = some (.int (i ^ n), .sh) := by
  have hb := bits_le h
  have : (PySem.Builtin.Int.intBits i : Int) * n ≤ 2 ^ 27 := by
    have h1 : PySem.Builtin.Int.intBits i * n ≤ 1000 * 20 := Nat.mul_le_mul hb hn
    have h2 : ((PySem.Builtin.Int.intBits i * n : Nat) : Int) ≤ ((1000 * 20 : Nat) : Int) := Int.ofNat_le.mpr h1
    rw [Int.natCast_mul] at h2
    omega
  have c : CPw i n := ⟨Int.natCast_nonneg n, this⟩
  simp only [oPow, oII, view]
  rw [if_pos c]
  simp
theorem oAdd_eq {i j : Int} {a b : Fl} {S : Store} : oAdd (.int i, a) (.int j, b) S = some (.int (i + j), .sh) := by simp [oAdd, view]
theorem oMul_eq {i j : Int} {a b : Fl} {S : Store} (h : i.natAbs < 2 ^ 1000) (h2 : j.natAbs < 2 ^ 1000) : oMul (.int i, a) (.int j, b) S = some (.int (i * j), .sh) := by
  have lg : ∀ {x : Int}, x.natAbs < 2 ^ 1000 → x.natAbs.log2 < 1000 := fun {x} h => by
    by_cases h0 : x.natAbs = 0
    · rw [h0]; decide
    · exact (Nat.log2_lt h0).mpr h
  have c : CMu i j := by
    have h3 := lg h
    have h4 := lg h2
    show i.natAbs.log2 + j.natAbs.log2 < 1000000
    omega
  simp only [oMul, view]
  rw [if_pos c]
theorem seq_nx {s t : SS} {ρ ρ1 : Loc} {S S1 : Store} (h : s ρ S = .nx ρ1 S1) : sSeq s t ρ S = t ρ1 S1 := by simp [sSeq, h]
theorem seq_rt {s t : SS} {ρ : Loc} {S S1 : Store} {r : RV} (h : s ρ S = .rt r S1) : sSeq s t ρ S = .rt r S1 := by simp [sSeq, h]
theorem ifs {t : ST} {a b : SS} {ρ : Loc} {S S1 : Store} {c : Bool} (h : t ρ S = .ok c S1) : sIfS t a b ρ S = if c = true then a ρ S1 else b ρ S1 := by simp [sIfS, goS, h]
theorem evT {f : SE} {ρ : Loc} {S S1 : Store} {c : Bool} {fl : Fl} (h : f ρ S = .ok (.bl c, fl) S1) : sT f ρ S = .ok c S1 := by simp [sT, R.bind, h]
theorem set_nx {i : Nat} {f : SE} {ρ : Loc} {S S1 : Store} {r : RV} (h : f ρ S = .ok r S1) (l : leakOk r = true) : sSet i f ρ S = .nx (ρ.set i (some (r.1, .sh))) S1 := by simp [sSet, goS, h, l]
theorem ret_rt {f : SE} {ρ : Loc} {S S1 : Store} {r : RV} (h : f ρ S = .ok r S1) (l : leakOk r = true) : sRet f ρ S = .rt (r.1, if r.2 = .own then .own else .sh) S1 := by simp [sRet, goS, h, l]
theorem sk {ρ : Loc} {S : Store} : sSkip ρ S = .nx ρ S := rfl
theorem v0_of {ρ : Loc} (h0 : ρ[0]? = some (some (.obj 1, .bor)) ∨ ρ[0]? = some (some (.obj 1, .sh))) (S : Store) : ∃ fl, sVar 0 ρ S = .ok (.obj 1, fl) S := by
  rcases h0 with h0 | h0
  · exact ⟨.bor, by simp [sVar, h0]⟩
  · exact ⟨.sh, by simp [sVar, h0]⟩
theorem put_rest {ρ : Loc} {larges cells : List Int} {rest turn z : Int} {X : Store} {f : SE} (h0 : ρ[0]? = some (some (.obj 1, .bor)) ∨ ρ[0]? = some (some (.obj 1, .sh))) (h : f ρ (stS larges cells rest turn X) = .ok (.int z, .sh) (stS larges cells rest turn X)) :
    sPut (sVar 0) (sCst (.str "rest")) f ρ (stS larges cells rest turn X) = .nx ρ (stS larges cells z turn X) := by
  obtain ⟨fl, ev⟩ := v0_of h0 (stS larges cells rest turn X)
  have h4 : (4 : Nat) < PySem.sizeLine := by decide
  unfold sPut goS
  rw [h, go_ok, ev, go_ok]
  simp [sCst, leakOk, dKey, setK, deq, stS, stD, box, h4]
theorem put_turn {ρ : Loc} {larges cells : List Int} {rest turn z : Int} {X : Store} {f : SE} (h0 : ρ[0]? = some (some (.obj 1, .bor)) ∨ ρ[0]? = some (some (.obj 1, .sh))) (h : f ρ (stS larges cells rest turn X) = .ok (.int z, .sh) (stS larges cells rest turn X)) :
    sPut (sVar 0) (sCst (.str "turn")) f ρ (stS larges cells rest turn X) = .nx ρ (stS larges cells rest z X) := by
  obtain ⟨fl, ev⟩ := v0_of h0 (stS larges cells rest turn X)
  have h4 : (4 : Nat) < PySem.sizeLine := by decide
  unfold sPut goS
  rw [h, go_ok, ev, go_ok]
  simp [sCst, leakOk, dKey, setK, deq, stS, stD, box, h4]
/-- the cell that a turn looks at -/
def cellOf (cells : List Int) (t : Int) : Int := if cells = [] then 0 else cells.getD (t % (cells.length : Int)).toNat 0
theorem cell_eq {ρ : Loc} {ls cells : List Int} {re t : Int} {X : Store} (h0 : ρ[0]? = some (some (.obj 1, .bor)) ∨ ρ[0]? = some (some (.obj 1, .sh))) (h3 : ρ[3]? = some (some (.int t, .sh))) :
    sIf (sT (sOp2 oNe (sOp2 oDGet (sVar 0) (sCst (.str "cells"))) (sLst sNil))) (sOp2 oIdx (sOp2 oDGet (sVar 0) (sCst (.str "cells"))) (sOp2 oMod (sB1 oInt (sVar 3)) (sB1 oLen (sOp2 oDGet (sVar 0) (sCst (.str "cells")))))) (sCst (.int 0)) ρ (stS ls cells re t X) =
      .ok (.int (cellOf cells t), .sh) (stS ls cells re t X) := by
  have dc : sOp2 oDGet (sVar 0) (sCst (.str "cells")) ρ (stS ls cells re t X) = .ok (.lst (cells.map D.int), .sh) (stS ls cells re t X) := get_at h0 gc
  have ne : sT (sOp2 oNe (sOp2 oDGet (sVar 0) (sCst (.str "cells"))) (sLst sNil)) ρ (stS ls cells re t X) = .ok (!deqs (cells.map D.int) []) (stS ls cells re t X) :=
    evT (fl := .sh) (ev2 dc (show sLst sNil _ _ = .ok (.lst [], .own) _ by simp [sLst, sNil, R.bind]) (by simp [oNe, view, plain, plains, plains_ints, dep, deps_ints, deq]))
  rw [sIf, ne]
  simp only [R.bind, go_ok]
  by_cases hc : cells = []
  · subst hc
    simp [deqs, evC, cellOf]
  · have hb : (!deqs (cells.map D.int) []) = true := by
      cases cells with
      | nil => exact absurd rfl hc
      | cons c r => rfl
    rw [if_pos hb]
    have hpos : (0 : Int) < cells.length := by
      cases cells with
      | nil => exact absurd rfl hc
      | cons c r => simp
    have h1 := Int.emod_lt_of_pos t hpos
    have h2 := Int.emod_nonneg t (show (cells.length : Int) ≠ 0 by omega)
    have ln : sB1 oLen (sOp2 oDGet (sVar 0) (sCst (.str "cells"))) ρ (stS ls cells re t X) = .ok (.int cells.length, .sh) (stS ls cells re t X) := by
      simp [sB1, sOpN, sCons, sNil, R.bind, dc, on1, oLen, view, opt]
    refine ev2 dc (ev2 (evI (evV h3)) ln (oMod_eq hpos)) ?_
    have ix : L2.ixN cells.length (t % (cells.length : Int)) = some (t % (cells.length : Int)).toNat := by
      unfold L2.ixN
      rw [if_pos h2, if_pos h1]
    have hlt : (t % (cells.length : Int)).toNat < cells.length := by omega
    simp [oIdx, view, L2.atI, ix, hlt, cellOf, hc]
/-- one draw -/
theorem draw_ok {E : Sem} {larges cells : List Int} {rest turn size T : Int} {X : Store} {fl f2 : Fl} (hfl : fl = .bor ∨ fl = .sh) (hf2 : f2 = .sh) (ok : StOk larges rest turn T) (hT : T < 2 ^ 40) (hs : 0 < size) (hs2 : size < 2 ^ 40) :
    ∃ r ls' rest' turn', 0 ≤ r ∧ r < size ∧ StOk ls' rest' turn' (T + 1) ∧ bodyF 6 (v_L_draw E) [(.obj 1, fl), (.int size, f2)] (stS larges cells rest turn X) = .ok (.int r, .sh) (stS ls' cells rest' turn' X) := by
  subst hf2
  have hl : ∃ fl', (fl' = .bor ∨ fl' = .sh) ∧ entry 6 [(.obj 1, fl), (.int size, .sh)] = [some (.obj 1, fl'), some (.int size, .sh), none, none, none, none] := by
    rcases hfl with rfl | rfl
    · exact ⟨.bor, .inl rfl, rfl⟩
    · exact ⟨.sh, .inr rfl, rfl⟩
  obtain ⟨fl', hfl', en⟩ := hl
  have h0 : ∀ {a b c d e : Option RV}, ([some (.obj 1, fl'), a, b, c, d, e] : Loc)[0]? = some (some (.obj 1, .bor)) ∨ ([some (.obj 1, fl'), a, b, c, d, e] : Loc)[0]? = some (some (.obj 1, .sh)) := fun {a b c d e} => by
    rcases hfl' with rfl | rfl
    · exact .inl rfl
    · exact .inr rfl
  obtain ⟨ls', rest', hrf⟩ : ∃ ls' rest', refill larges rest = (ls', rest') := ⟨_, _, rfl⟩
  have rok := refill_ok ok.ls ok.r
  rw [hrf] at rok
  obtain ⟨q1, q2, q3⟩ := rok
  have q3 : ls'.length ≤ larges.length := q3
  have q2 : 0 ≤ rest' := q2
  have q1 : ∀ x ∈ ls', 0 ≤ x := q1
  have okl := ok.len
  have t0 := ok.t0
  have t1 := ok.t1
  have lp : sWhile sMore sPull [some (.obj 1, fl'), some (.int size, .sh), none, none, none, none] (stS larges cells rest turn X) = .nx [some (.obj 1, fl'), some (.int size, .sh), none, none, none, none] (stS ls' cells rest' turn X) := by
    rw [loop_eq h0 ok.len, hrf]
  have lg : size.natAbs.log2 < 9000 := by
    have h1 : size.natAbs ≠ 0 := by omega
    have : size.natAbs < 2 ^ 40 := by omega
    have := (Nat.log2_lt h1).mpr this
    omega
  have dr : ∀ {a b c d e : Option RV} {ls cs : List Int} {re tu : Int}, sOp2 oDGet (sVar 0) (sCst (.str "rest")) [some (.obj 1, fl'), a, b, c, d, e] (stS ls cs re tu X) = .ok (.int re, .sh) (stS ls cs re tu X) := fun {a b c d e ls cs re tu} => get_at h0 gr
  by_cases hr : 0 < rest'
  · refine ⟨rest' % size, ls', rest' / size, turn, Int.emod_nonneg _ (by omega), Int.emod_lt_of_pos _ hs, ⟨q1, by omega, Int.ediv_nonneg q2 (by omega), t0, by omega⟩, ?_⟩
    have c1 : sT (sOp2 oGt (sOp2 oDGet (sVar 0) (sCst (.str "rest"))) (sCst (.int 0))) [some (.obj 1, fl'), some (.int size, .sh), none, none, none, none] (stS ls' cells rest' turn X) = .ok true (stS ls' cells rest' turn X) :=
      evT (fl := .sh) (ev2 dr evC (by simp [oGt, oCmp, view, hr]))
    have g1 : sOp2 oMod (sB1 oInt (sOp2 oDGet (sVar 0) (sCst (.str "rest")))) (sVar 1) [some (.obj 1, fl'), some (.int size, .sh), none, none, none, none] (stS ls' cells rest' turn X) = .ok (.int (rest' % size), .sh) (stS ls' cells rest' turn X) :=
      ev2 (evI dr) (evV rfl) (oMod_eq hs)
    have g2 : sOp2 oFdiv (sOp2 oDGet (sVar 0) (sCst (.str "rest"))) (sVar 1) [some (.obj 1, fl'), some (.int size, .sh), some (.int (rest' % size), .sh), none, none, none] (stS ls' cells rest' turn X) = .ok (.int (rest' / size), .sh) (stS ls' cells rest' turn X) :=
      ev2 dr (evV rfl) (oFdiv_eq hs lg)
    have fin : v_L_draw E [some (.obj 1, fl'), some (.int size, .sh), none, none, none, none] (stS larges cells rest turn X) = .rt (.int (rest' % size), .sh) (stS ls' cells (rest' / size) turn X) := by
      unfold v_L_draw
      rw [seq_nx lp]
      refine seq_rt ?_
      rw [ifs c1, if_pos rfl, seq_nx (set_nx g1 rfl)]
      show sSeq _ _ [some (.obj 1, fl'), some (.int size, .sh), some (.int (rest' % size), .sh), none, none, none] _ = _
      rw [seq_nx (put_rest h0 g2)]
      exact seq_rt (ret_rt (evV rfl) rfl)
    unfold bodyF
    rw [en, fin]
  · have r0 : rest' = 0 := by omega
    subst r0
    have dt : ∀ {a b c d e : Option RV} {ls cs : List Int} {re tu : Int}, sOp2 oDGet (sVar 0) (sCst (.str "turn")) [some (.obj 1, fl'), a, b, c, d, e] (stS ls cs re tu X) = .ok (.int tu, .sh) (stS ls cs re tu X) := fun {a b c d e ls cs re tu} => get_at h0 gt
    have dc : ∀ {a b c d e : Option RV} {ls cs : List Int} {re tu : Int}, sOp2 oDGet (sVar 0) (sCst (.str "cells")) [some (.obj 1, fl'), a, b, c, d, e] (stS ls cs re tu X) = .ok (.lst (cs.map D.int), .sh) (stS ls cs re tu X) := fun {a b c d e ls cs re tu} => get_at h0 gc
    have c1 : sT (sOp2 oGt (sOp2 oDGet (sVar 0) (sCst (.str "rest"))) (sCst (.int 0))) [some (.obj 1, fl'), some (.int size, .sh), none, none, none, none] (stS ls' cells 0 turn X) = .ok false (stS ls' cells 0 turn X) :=
      evT (fl := .sh) (ev2 dr evC (by simp [oGt, oCmp, view]))
    have hc0 := Int.emod_nonneg (cellOf cells (turn + 1)) (show (2147483629 : Int) ≠ 0 by decide)
    have hc1 := Int.emod_lt_of_pos (cellOf cells (turn + 1)) (show (0 : Int) < 2147483629 by decide)
    generalize hcv : cellOf cells (turn + 1) = cv at hc0 hc1
    have hm0 := Int.emod_nonneg ((cv % 2147483629 + 69621 * (turn + 1) + 12345) ^ 3) (show (2147483647 : Int) ≠ 0 by decide)
    have hm1 := Int.emod_lt_of_pos ((cv % 2147483629 + 69621 * (turn + 1) + 12345) ^ 3) (show (0 : Int) < 2147483647 by decide)
    generalize hmv : (cv % 2147483629 + 69621 * (turn + 1) + 12345) ^ 3 % 2147483647 = mv at hm0 hm1
    have big : ∀ {z : Int}, 0 ≤ z → z < 2 ^ 80 → z.natAbs < 2 ^ 1000 := fun {z} h1 h2 => Nat.lt_of_lt_of_le (show z.natAbs < 2 ^ 80 by omega) (Nat.pow_le_pow_right (by decide) (by decide))
    have ht : turn < 2 ^ 40 := by omega
    refine ⟨((mv + 104729 * (turn + 1)) ^ 5 % 2147483587 / 13) % size, ls', 0, turn + 1, Int.emod_nonneg _ (by omega), Int.emod_lt_of_pos _ hs, ⟨q1, by omega, Int.le_refl _, by omega, by omega⟩, ?_⟩
    have g3 : sOp2 oAdd (sOp2 oDGet (sVar 0) (sCst (.str "turn"))) (sCst (.int 1)) [some (.obj 1, fl'), some (.int size, .sh), none, none, none, none] (stS ls' cells 0 turn X) = .ok (.int (turn + 1), .sh) (stS ls' cells 0 turn X) :=
      ev2 dt evC oAdd_eq
    have g5 : sOp2 oMod (sB1 oInt (sOp2 oPow (sOp2 oAdd (sOp2 oAdd (sOp2 oMod (sB1 oInt (sVar 4)) (sCst (.int 2147483629))) (sOp2 oMul (sCst (.int 69621)) (sVar 3))) (sCst (.int 12345))) (sCst (.int 3)))) (sCst (.int 2147483647))
        [some (.obj 1, fl'), some (.int size, .sh), none, some (.int (turn + 1), .sh), some (.int cv, .sh), none] (stS ls' cells 0 (turn + 1) X) = .ok (.int mv, .sh) (stS ls' cells 0 (turn + 1) X) := by
      rw [← hmv]
      exact ev2 (evI (ev2 (ev2 (ev2 (ev2 (evI (evV rfl)) evC (oMod_eq (by decide))) (ev2 evC (evV rfl) (oMul_eq (by decide) (big (by omega) (by omega)))) oAdd_eq) evC oAdd_eq) evC (oPow_eq (n := 3) (big (by omega) (by omega)) (by decide)))) evC (oMod_eq (by decide))
    have g6 : sOp2 oMod (sB1 oInt (sOp2 oFdiv (sOp2 oMod (sB1 oInt (sOp2 oPow (sOp2 oAdd (sVar 5) (sOp2 oMul (sCst (.int 104729)) (sVar 3))) (sCst (.int 5)))) (sCst (.int 2147483587))) (sCst (.int 13)))) (sVar 1)
        [some (.obj 1, fl'), some (.int size, .sh), none, some (.int (turn + 1), .sh), some (.int cv, .sh), some (.int mv, .sh)] (stS ls' cells 0 (turn + 1) X) = .ok (.int (((mv + 104729 * (turn + 1)) ^ 5 % 2147483587 / 13) % size), .sh) (stS ls' cells 0 (turn + 1) X) :=
      ev2 (evI (ev2 (ev2 (evI (ev2 (ev2 (evV rfl) (ev2 evC (evV rfl) (oMul_eq (by decide) (big (by omega) (by omega)))) oAdd_eq) evC (oPow_eq (n := 5) (big (by omega) (by omega)) (by decide)))) evC (oMod_eq (by decide))) evC (oFdiv_eq (by decide) (by decide)))) (evV rfl) (oMod_eq hs)
    have fin : v_L_draw E [some (.obj 1, fl'), some (.int size, .sh), none, none, none, none] (stS larges cells rest turn X) = .rt (.int (((mv + 104729 * (turn + 1)) ^ 5 % 2147483587 / 13) % size), .sh) (stS ls' cells 0 (turn + 1) X) := by
      unfold v_L_draw
      rw [seq_nx lp, seq_nx (show sIfS _ _ _ _ _ = .nx _ _ by rw [ifs c1]; rfl), seq_nx (set_nx g3 rfl)]
      show sSeq _ _ [some (.obj 1, fl'), some (.int size, .sh), none, some (.int (turn + 1), .sh), none, none] _ = _
      rw [seq_nx (put_turn h0 (evV rfl)), seq_nx (set_nx (cell_eq h0 rfl) rfl), hcv]
      show sSeq _ _ [some (.obj 1, fl'), some (.int size, .sh), none, some (.int (turn + 1), .sh), some (.int cv, .sh), none] _ = _
      rw [seq_nx (set_nx g5 rfl)]
      exact seq_rt (ret_rt g6 rfl)
    unfold bodyF
    rw [en, fin]
end K25

set_option maxRecDepth 100000
namespace K25
open DL
/-! ### more of the evaluation -/
theorem evArgs1 {f : SE} {ρ : Loc} {S S1 : Store} {r : RV} (h : f ρ S = .ok r S1) : sCons f sNil ρ S = .ok [r] S1 := by simp [sCons, sNil, R.bind, h]
theorem evCons {f : SE} {fs : SA} {ρ : Loc} {S S1 S2 : Store} {r : RV} {rs : List RV} (h : f ρ S = .ok r S1) (h2 : fs ρ S1 = .ok rs S2) : sCons f fs ρ S = .ok (r :: rs) S2 := by simp [sCons, R.bind, h, h2]
theorem evNil {ρ : Loc} {S : Store} : sNil ρ S = .ok [] S := rfl
theorem evCall {np : Nat} {F : SF} {fs : SA} {ρ : Loc} {S S1 S2 : Store} {rs : List RV} {r : RV} (h : fs ρ S = .ok rs S1) (hn : rs.length = np) (hF : F rs S1 = .ok r S2) : sCall np F [] fs ρ S = .ok r S2 := by
  simp [sCall, R.bind, h, hn, hF]
theorem evB1 {op : RV → Store → Option RV} {f : SE} {ρ : Loc} {S S1 : Store} {a q : RV} (h : f ρ S = .ok a S1) (hq : op a S1 = some q) : sB1 op f ρ S = .ok q S1 := by simp [sB1, sOpN, sCons, sNil, R.bind, h, on1, hq, opt]
theorem evTup {fs : SA} {ρ : Loc} {S S1 : Store} {rs : List RV} (h : fs ρ S = .ok rs S1) (hl : rs.all leakOk = true) (hn : rs.length ≤ PySem.sizeLine) : sTup fs ρ S = .ok (.tup (rs.map (·.1)), .sh) S1 := by simp [sTup, R.bind, h, hl, hn]
theorem evLst {fs : SA} {ρ : Loc} {S S1 : Store} {rs : List RV} (h : fs ρ S = .ok rs S1) (hl : rs.all leakOk = true) (hn : rs.length ≤ PySem.sizeLine) : sLst fs ρ S = .ok (.lst (rs.map (·.1)), .own) S1 := by simp [sLst, R.bind, h, hl, hn]
theorem evIf {t : ST} {f g : SE} {ρ : Loc} {S S1 : Store} {c : Bool} (h : t ρ S = .ok c S1) : sIf t f g ρ S = if c = true then f ρ S1 else g ρ S1 := by simp [sIf, R.bind, h]
theorem small {n : Nat} (h : n ≤ 1000000) : n ≤ PySem.sizeLine := Nat.le_trans h (by decide)
theorem small' {n : Nat} (h : n ≤ 1000000) : n < PySem.sizeLine := Nat.lt_of_le_of_lt h (by decide)
/-! ### the state of the draws -/
def St (S : Store) (X : Store) (T : Int) : Prop := ∃ ls cells rest turn, S = stS ls cells rest turn X ∧ StOk ls rest turn T
theorem St.more {S X : Store} {T T' : Int} (h : St S X T) (l : T ≤ T') : St S X T' := by
  obtain ⟨ls, cells, rest, turn, e, o⟩ := h
  exact ⟨ls, cells, rest, turn, e, o.ls, o.len, o.r, o.t0, Int.le_trans o.t1 l⟩
def lim : Int := 1000000000
/-- the state as an argument -/
def Sarg (fl : Fl) : Prop := fl = .bor ∨ fl = .sh
def DrawOk (F : SF) : Prop := ∀ (S X : Store) (T size : Int) (fl : Fl), Sarg fl → St S X T → T < lim → 0 < size → size < 2 ^ 40 → ∃ r S', 0 ≤ r ∧ r < size ∧ St S' X (T + 1) ∧ F [(.obj 1, fl), (.int size, .sh)] S = .ok (.int r, .sh) S'
theorem draw_sem (E : Sem) : DrawOk (step E).L_draw := by
  intro S X T size fl hfl ⟨ls, cells, rest, turn, e, o⟩ hT hs hs2
  subst e
  obtain ⟨r, ls', rest', turn', h1, h2, h3, h4⟩ := draw_ok (E := E) (cells := cells) (X := X) hfl rfl o (by unfold lim at hT; omega) hs hs2
  exact ⟨r, _, h1, h2, ⟨ls', cells, rest', turn', rfl, h3⟩, h4⟩
/-- the items of a row -/
def itemsD : D → Option (List D)
  | .lst ds => some ds
  | .tup ds => some ds
  | .str x => some (signs x)
  | _ => none
theorem len_items {d : D} {its : List D} {fl : Fl} {S : Store} (h : itemsD d = some its) (hz : its.length ≤ 1000000) : oLen (d, fl) S = some (.int its.length, .sh) := by
  cases d with
  | lst ds => cases h; simp [oLen, view]
  | tup ds => cases h; simp [oLen, view]
  | str x =>
    cases h
    have hl : (signs x).length = x.length := by unfold signs; rw [List.length_map, String.length_toList]
    rw [hl] at hz ⊢
    have : x.length ≤ PySem.sizeLine := small hz
    simp [oLen, view, this]
  | _ => cases h
theorem atI_nn {α : Type} {l : List α} {i : Int} (h0 : 0 ≤ i) (h1 : i < l.length) : ∃ a, a ∈ l ∧ L2.atI l i = some a := by
  have hl : i.toNat < l.length := by omega
  refine ⟨l[i.toNat], List.getElem_mem hl, ?_⟩
  unfold L2.atI L2.ixN
  rw [if_pos h0, if_pos h1]
  simp [hl]
theorem idx_items {d : D} {its : List D} {fl : Fl} {S : Store} {i : Int} (h : itemsD d = some its) (hz : its.length ≤ 1000000) (h0 : 0 ≤ i) (h1 : i < its.length) : ∃ a, a ∈ its ∧ oIdx (d, fl) (.int i, .sh) S = some (a, .sh) := by
  cases d with
  | lst ds =>
    cases h
    obtain ⟨a, ha, e⟩ := atI_nn h0 h1
    exact ⟨a, ha, by simp [oIdx, view, e]⟩
  | tup ds =>
    cases h
    obtain ⟨a, ha, e⟩ := atI_nn h0 h1
    exact ⟨a, ha, by simp [oIdx, view, e]⟩
  | str x =>
    cases h
    have hl : (signs x).length = x.length := by unfold signs; rw [List.length_map, String.length_toList]
    have hz' : x.length ≤ PySem.sizeLine := small (by rw [← hl]; exact hz)
    have h2 : i < x.toList.length := by rw [String.length_toList, ← hl]; exact h1
    obtain ⟨a, ha, e⟩ := atI_nn h0 h2
    refine ⟨.str (String.singleton a), ?_, by simp [oIdx, view, hz', e]⟩
    unfold signs
    exact List.mem_map.mpr ⟨a, ha, rfl⟩
  | _ => cases h
def PickOk (F : SF) : Prop := ∀ (S X : Store) (T : Int) (fl f2 : Fl) (d : D) (its : List D), Sarg fl → St S X T → T < lim → itemsD d = some its → 0 < its.length → its.length ≤ 1000000 →
  ∃ a S', a ∈ its ∧ St S' X (T + 1) ∧ F [(.obj 1, fl), (d, f2)] S = .ok (a, .sh) S'
theorem lend_st {fl : Fl} (h : Sarg fl) : Sarg (lend fl) := by rcases h with rfl | rfl; exact .inl rfl; exact .inr rfl
theorem evVar {ρ : Loc} {S : Store} {i : Nat} {d : D} {fl : Fl} (h : ρ[i]? = some (some (d, fl))) (hf : Sarg fl) : sVar i ρ S = .ok (d, fl) S := by
  rcases hf with rfl | rfl <;> simp [sVar, h]
theorem lend_any (fl : Fl) : Sarg (lend fl) := by cases fl; exact .inr rfl; exact .inr rfl; exact .inl rfl; exact .inl rfl
theorem body_rt {n : Nat} {b : SS} {rs : List RV} {S S' : Store} {r : RV} (h : b (entry n rs) S = .rt r S') : bodyF n b rs S = .ok r S' := by simp [bodyF, h]
theorem pick_sem {E : Sem} (hd : DrawOk E.L_draw) : PickOk (step E).L_pick := by
  intro S X T fl f2 d its hfl hS hT hi h0 hz
  obtain ⟨r, S', r0, r1, hS', e⟩ := hd S X T its.length (lend fl) (lend_st hfl) hS hT (by omega) (by omega)
  obtain ⟨a, ha, ea⟩ := idx_items (fl := lend f2) (S := S') hi hz r0 r1
  refine ⟨a, S', ha, hS', body_rt ?_⟩
  have en : entry 2 [(.obj 1, fl), (d, f2)] = [some (.obj 1, lend fl), some (d, lend f2)] := rfl
  unfold v_L_pick
  rw [en]
  refine seq_rt (ret_rt (r := (a, .sh)) (ev2 (evVar rfl (lend_any f2)) (evCall (evCons (evVar rfl (lend_st hfl)) (evArgs1 (evB1 (evVar rfl (lend_any f2)) (len_items hi hz)))) rfl e) ea) (by simp [leakOk]))
end K25

set_option maxRecDepth 100000
namespace K25
open DL
/-! ### names -/
def letters : String := "abcdefghijklmnopqrstuvwxyz"
def keptL : List String := ["ask", "do", "else", "end", "go", "if", "not", "pass", "piece", "return", "true", "while"]
def nameB (x : String) : Bool := decide (1 ≤ x.length) && decide (x.length ≤ 8) && x.toList.all (fun c => decide (c ∈ letters.toList)) && decide (x ∉ keptL)
/-- a walk of a comprehension whose element moves the state -/
theorem lc_run {i : Nat} {f : SE} {ρ : Loc} (N : Nat) (P : Nat → Store → Prop) (Q : D → Prop) : ∀ (ds : List D), (∀ k d S, d ∈ ds → k < N → P k S → ∃ r S', f (ρ.set i (some (d, .sh))) S = .ok r S' ∧ leakOk r = true ∧ Q r.1 ∧ P (k + 1) S') → ∀ k S, k + ds.length ≤ N → P k S →
    ∃ rs S', lcI (gNm i) sYes f ρ ds S = .ok rs S' ∧ rs.length = ds.length ∧ (∀ r ∈ rs, Q r) ∧ P (k + ds.length) S'
  | [], _, k, S, _, h => ⟨[], S, rfl, rfl, (fun _ q => by cases q), h⟩
  | d :: ds, hf, k, S, hN, h => by
    rw [List.length_cons] at hN
    obtain ⟨r, S1, e1, l, q, p⟩ := hf k d S List.mem_cons_self (by omega) h
    obtain ⟨rs, S2, e2, hl, hq, p2⟩ := lc_run N P Q ds (fun k d S m => hf k d S (List.mem_cons_of_mem _ m)) (k + 1) S1 (by omega) p
    refine ⟨r.1 :: rs, S2, ?_, by simp [hl], fun x hx => ?_, by rw [List.length_cons, show k + (ds.length + 1) = k + 1 + ds.length by omega]; exact p2⟩
    · simp [lcI, gNm, sYes, e1, l, R.bind, e2]
    · rcases List.mem_cons.mp hx with rfl | hx
      · exact q
      · exact hq x hx
theorem evLc {fi : SI} {t : Tgt} {c : ST} {f : SE} {vs : List Nat} {ρ : Loc} {S S1 S2 : Store} {ds rs : List D} (h : fi ρ S = .ok ds S1) (hl : ds.length ≤ 1000000) (h2 : lcI t c f (wipeL ρ vs) ds S1 = .ok rs S2) : sLc fi t c f vs ρ S = .ok (.lst rs, .own) S2 := by
  have : ds.length < PySem.sizeLine := small' hl
  simp [sLc, R.bind, h, this, h2]
theorem evRng1 {fs : SA} {ρ : Loc} {S S1 : Store} {j : Int} {fl : Fl} (h : fs ρ S = .ok [(.int j, fl)] S1) (h0 : -(2 ^ 62) ≤ j) (h1 : j < 2 ^ 62) : sRng1 fs ρ S = .ok (rngD 0 j.toNat) S1 := by
  simp only [sRng1, R.bind, h, go_ok]
  rw [if_pos ⟨h0, h1⟩]
theorem rng_len {lo : Int} {n : Nat} : (rngD lo n).length = n := by simp [rngD]
theorem joinS_toList : ∀ cs : List Char, (joinS "" (cs.map String.singleton)).toList = cs
  | [] => rfl
  | [c] => by simp [joinS]
  | c :: d :: r => by
    have := joinS_toList (d :: r)
    simp only [List.map_cons] at this ⊢
    rw [joinS, String.toList_append, String.toList_append, this]
    simp
theorem strs_singles : ∀ {rs : List D}, (∀ r ∈ rs, ∃ c, c ∈ letters.toList ∧ r = .str (String.singleton c)) → ∃ cs : List Char, strsD rs = some (cs.map String.singleton) ∧ cs.length = rs.length ∧ ∀ c ∈ cs, c ∈ letters.toList
  | [], _ => ⟨[], rfl, rfl, fun _ q => by cases q⟩
  | r :: rs, h => by
    obtain ⟨c, hc, e⟩ := h r List.mem_cons_self
    obtain ⟨cs, e1, e2, e3⟩ := strs_singles (rs := rs) fun x hx => h x (List.mem_cons_of_mem _ hx)
    subst e
    refine ⟨c :: cs, by simp [strsD, e1], by simp [e2], fun x hx => ?_⟩
    rcases List.mem_cons.mp hx with rfl | hx
    · exact hc
    · exact e3 x hx
theorem evJoin {f g : SE} {ρ : Loc} {S S1 S2 : Store} {x : String} {fl fl2 : Fl} {rs : List D} {ys : List String} (h : f ρ S = .ok (.str x, fl) S1) (h2 : g ρ S1 = .ok (.lst rs, fl2) S2) (e : strsD rs = some ys) (hz : (ys.map (·.length)).sum + ys.length * x.length ≤ 16777216) :
    sJoin f g ρ S = .ok (.str (joinS x ys), .sh) S2 := by
  simp [sJoin, R.bind, h, h2, view, rowOf, e, hz]
theorem plains_strs : ∀ l : List String, plains (l.map D.str) = true
  | [] => rfl
  | _ :: r => by simp [plains, plain, plains_strs r]
theorem mem_strs {x : String} : ∀ l : List String, memD (.str x) (l.map D.str) = decide (x ∈ l)
  | [] => by simp [memD]
  | y :: r => by
    have ih := mem_strs (x := x) r
    unfold memD at ih ⊢
    simp only [List.map_cons, List.any_cons, ih, deq, List.mem_cons]
    by_cases h : y = x
    · subst h; simp
    · have h' : ¬ x = y := fun q => h q.symm
      simp [h, h']
def KeptOk (F : SF) : Prop := ∀ S, F [] S = .ok (.lst (keptL.map D.str), .own) S
theorem kept_sem (E : Sem) : KeptOk (step E).L_kept := by
  intro S
  show bodyF 0 (v_L_kept E) [] S = _
  refine body_rt ?_
  unfold v_L_kept
  exact seq_rt (ret_rt (r := (.lst (keptL.map D.str), .own)) (evLst (rs := keptL.map fun x => (.str x, .sh)) rfl (by decide) (by decide)) rfl)
def NameF (F : SF) : Prop := ∀ (S X : Store) (T : Int) (fl : Fl), Sarg fl → St S X T → T + 20 < lim → ∃ x S', nameB x = true ∧ St S' X (T + 20) ∧ F [(.obj 1, fl)] S = .ok (.str x, .sh) S'
theorem nameB_of {cs : List Char} (h1 : 1 ≤ cs.length) (h8 : cs.length ≤ 8) (hc : ∀ c ∈ cs, c ∈ letters.toList) (hk : joinS "" (cs.map String.singleton) ∉ keptL) : nameB (joinS "" (cs.map String.singleton)) = true := by
  have tl := joinS_toList cs
  have hl : (joinS "" (cs.map String.singleton)).length = cs.length := by rw [← String.length_toList, tl]
  unfold nameB
  rw [hl, tl]
  simp only [Bool.and_eq_true, decide_eq_true_eq, List.all_eq_true]
  exact ⟨⟨⟨h1, h8⟩, hc⟩, hk⟩
theorem sum_ones (cs : List Char) : ((cs.map String.singleton).map (·.length)).sum = cs.length := by
  induction cs with
  | nil => rfl
  | cons c r ih => simp at ih ⊢; omega
theorem oLt_i {i j : Int} {a b : Fl} {S : Store} : oLt (.int i, a) (.int j, b) S = some (.bl (decide (i < j)), .sh) := by simp [oLt, view]
theorem oEq_i {i j : Int} {a b : Fl} {S : Store} : oEq (.int i, a) (.int j, b) S = some (.bl (decide (i = j)), .sh) := by
  by_cases h : i = j <;> simp [oEq, view, plain, dep, deq, h]
theorem skip_if {t : ST} {a : SS} {ρ : Loc} {S S1 : Store} (h : t ρ S = .ok false S1) : sIfS t a sSkip ρ S = .nx ρ S1 := by rw [ifs h]; rfl
theorem name_sem {E : Sem} (hd : DrawOk E.L_draw) (hp : PickOk E.L_pick) (hk : KeptOk E.L_kept) : NameF (step E).L_name := by
  intro S X T fl hfl hS hT
  show ∃ x S', _ ∧ _ ∧ bodyF 6 (v_L_name E) [(.obj 1, fl)] S = _
  have en : entry 6 [(.obj 1, fl)] = [some (.obj 1, lend fl), none, none, none, none, none] := rfl
  have lf := lend_st hfl
  unfold lim at hT
  obtain ⟨w, S1, w0, w1, hS1, e1⟩ := hd S X T 6 (lend fl) lf hS (by unfold lim; omega) (by decide) (by decide)
  have s1 : sSet 1 (sCall 2 E.L_draw [] (sCons (sVar 0) (sCons (sCst (.int 6)) sNil))) [some (.obj 1, lend fl), none, none, none, none, none] S = .nx [some (.obj 1, lend fl), some (.int w, .sh), none, none, none, none] S1 :=
    set_nx (evCall (evCons (evVar rfl lf) (evArgs1 evC)) rfl e1) (by simp [leakOk])
  by_cases hw : w < 3
  · obtain ⟨a, S2, ha, hS2, e2⟩ := hp S1 X (T + 1) (lend fl) .own (.lst [.str "a", .str "b", .str "p", .str "q"]) _ lf hS1 (by unfold lim; omega) rfl (by decide) (by decide)
    have an : ∃ x, nameB x = true ∧ a = .str x := by
      simp only [List.mem_cons, List.not_mem_nil, or_false] at ha
      rcases ha with rfl | rfl | rfl | rfl <;> exact ⟨_, by decide, rfl⟩
    obtain ⟨x, hx, rfl⟩ := an
    refine ⟨x, S2, hx, hS2.more (by omega), body_rt ?_⟩
    rw [en]
    unfold v_L_name
    rw [seq_nx s1]
    refine seq_rt ?_
    rw [ifs (evT (fl := .sh) (ev2 (evVar rfl (.inr rfl)) evC oLt_i)), if_pos (by simpa using hw)]
    exact seq_rt (ret_rt (r := (.str x, .sh)) (evCall (evCons (evVar rfl lf) (evArgs1 (evLst (rs := [(.str "a", .sh), (.str "b", .sh), (.str "p", .sh), (.str "q", .sh)]) rfl rfl (by decide)))) rfl e2) rfl)
  have c1 : sT (sOp2 oLt (sVar 1) (sCst (.int 3))) [some (.obj 1, lend fl), some (.int w, .sh), none, none, none, none] S1 = .ok false S1 := by
    have : decide (w < 3) = false := by simpa using hw
    rw [← this]
    exact evT (fl := .sh) (ev2 (evVar rfl (.inr rfl)) evC oLt_i)
  by_cases hw3 : w = 3
  · obtain ⟨a, S2, ha, hS2, e2⟩ := hp S1 X (T + 1) (lend fl) .sh (.lst ((["asks", "dos", "ends", "iff", "pieces", "gone", "start", "on", "yes", "no", "row", "none"]).map D.str)) _ lf hS1 (by unfold lim; omega) rfl (by decide) (by decide)
    have an : ∃ x, nameB x = true ∧ a = .str x := by
      obtain ⟨x, hx, rfl⟩ := List.mem_map.mp ha
      refine ⟨x, ?_, rfl⟩
      have all : ∀ x ∈ ["asks", "dos", "ends", "iff", "pieces", "gone", "start", "on", "yes", "no", "row", "none"], nameB x = true := by decide +kernel
      exact all x hx
    obtain ⟨x, hx, rfl⟩ := an
    refine ⟨x, S2, hx, hS2.more (by omega), body_rt ?_⟩
    rw [en]
    unfold v_L_name
    rw [seq_nx s1, seq_nx (skip_if c1)]
    refine seq_rt ?_
    rw [ifs (evT (fl := .sh) (ev2 (evVar rfl (.inr rfl)) evC oEq_i)), if_pos (by simpa using hw3)]
    rw [seq_nx (set_nx (evLst (rs := (["asks", "dos", "ends", "iff", "pieces", "gone", "start", "on", "yes", "no", "row", "none"]).map fun x => (.str x, .sh)) rfl rfl (by decide)) rfl)]
    exact seq_rt (ret_rt (r := (.str x, .sh)) (evCall (evCons (evVar rfl lf) (evArgs1 (evVar rfl (.inr rfl)))) rfl e2) rfl)
  · have c2 : sT (sOp2 oEq (sVar 1) (sCst (.int 3))) [some (.obj 1, lend fl), some (.int w, .sh), none, none, none, none] S1 = .ok false S1 := by
      have : decide (w = 3) = false := by simpa using hw3
      rw [← this]
      exact evT (fl := .sh) (ev2 (evVar rfl (.inr rfl)) evC oEq_i)
    obtain ⟨k, S2, k0, k1, hS2, e2⟩ := hd S1 X (T + 1) 8 (lend fl) lf hS1 (by unfold lim; omega) (by decide) (by decide)
    obtain ⟨rs, S3, e3, l3, q3, hS3⟩ := lc_run (i := 5) (f := sCall 2 E.L_pick [] (sCons (sVar 0) (sCons (sVar 3) sNil))) (ρ := [some (.obj 1, lend fl), some (.int w, .sh), none, some (.str letters, .sh), none, none])
      8 (fun j S => St S X (T + 2 + j)) (fun r => ∃ c, c ∈ letters.toList ∧ r = .str (String.singleton c)) (rngD 0 (1 + k).toNat) (fun j d S hm hj h => by
        obtain ⟨a, S', ha, hS', e⟩ := hp S X (T + 2 + j) (lend fl) .sh (.str letters) _ lf h (by unfold lim; omega) rfl (by decide) (by decide)
        refine ⟨(a, .sh), S', evCall (evCons (evVar rfl lf) (evArgs1 (evVar rfl (.inr rfl)))) rfl e, by simp [leakOk], ?_, by simpa [Int.add_assoc] using hS'⟩
        obtain ⟨c, hc, rfl⟩ := List.mem_map.mp ha
        exact ⟨c, hc, rfl⟩) 0 S2 (by rw [rng_len]; omega) (hS2.more (by omega))
    rw [rng_len] at l3 hS3
    obtain ⟨cs, hcs, lcs, acs⟩ := strs_singles q3
    have lk : cs.length = (1 + k).toNat := by rw [lcs, l3]
    have hS3' : St S3 X (T + 12) := hS3.more (by omega)
    have ej : sJoin (sCst (.str "")) (sLc (sRng1 (sCons (sOp2 oAdd (sCst (.int 1)) (sCall 2 E.L_draw [] (sCons (sVar 0) (sCons (sCst (.int 8)) sNil)))) sNil)) (gNm 5) sYes (sCall 2 E.L_pick [] (sCons (sVar 0) (sCons (sVar 3) sNil))) [5])
        [some (.obj 1, lend fl), some (.int w, .sh), none, some (.str letters, .sh), none, none] S1 = .ok (.str (joinS "" (cs.map String.singleton)), .sh) S3 := by
      refine evJoin evC (evLc (evRng1 (evArgs1 (ev2 evC (evCall (evCons (evVar rfl lf) (evArgs1 evC)) rfl e2) oAdd_eq)) (by omega) (by omega)) (by rw [rng_len]; omega) e3) hcs ?_
      rw [sum_ones, List.length_map]
      have : ("" : String).length = 0 := rfl
      rw [this]
      omega
    have kin : ∀ x : String, sT (sOp2 oIn (sVar 4) (sCall 0 E.L_kept [] sNil)) [some (.obj 1, lend fl), some (.int w, .sh), none, some (.str letters, .sh), some (.str x, .sh), none] S3 = .ok (decide (x ∈ keptL)) S3 := fun x => by
      refine evT (fl := .sh) (ev2 (evVar rfl (.inr rfl)) (evCall evNil rfl (hk S3)) ?_)
      simp [oIn, oInG, view, inSeq, plains_strs, mem_strs, plain, dep]
    have fin : ∀ (x : String), joinS "" (cs.map String.singleton) = x → ∃ y, nameB y = true ∧ sIf (sT (sOp2 oIn (sVar 4) (sCall 0 E.L_kept [] sNil))) (sOp2 oAdd (sVar 4) (sCst (.str "x"))) (sVar 4) [some (.obj 1, lend fl), some (.int w, .sh), none, some (.str letters, .sh), some (.str x, .sh), none] S3 = .ok (.str y, .sh) S3 := fun x ex => by
      rw [evIf (kin x)]
      by_cases hx : x ∈ keptL
      · rw [if_pos (by simpa using hx)]
        have all : ∀ x ∈ keptL, nameB (x ++ "x") = true ∧ x.length + ("x" : String).length ≤ 100 := by decide +kernel
        refine ⟨x ++ "x", (all x hx).1, ev2 (evVar rfl (.inr rfl)) evC ?_⟩
        simp only [oAdd, view]
        rw [if_pos (small (by have := (all x hx).2; omega))]
      · rw [if_neg (by simpa using hx)]
        refine ⟨x, ?_, evVar rfl (.inr rfl)⟩
        subst ex
        exact nameB_of (by omega) (by omega) acs hx
    obtain ⟨y, hy, ey⟩ := fin _ rfl
    refine ⟨y, S3, hy, hS3'.more (by omega), body_rt ?_⟩
    rw [en]
    unfold v_L_name
    rw [seq_nx s1, seq_nx (skip_if c1), seq_nx (skip_if c2), seq_nx (set_nx evC rfl)]
    show sSeq _ _ [some (.obj 1, lend fl), some (.int w, .sh), none, some (.str letters, .sh), none, none] _ = _
    rw [seq_nx (set_nx ej rfl)]
    exact seq_rt (ret_rt ey rfl)
end K25

set_option maxRecDepth 100000
namespace K25
open DL
/-! ### programs as told -/
inductive PT where
  | do_ (n : String)
  | ret (n : String)
  | go (n : String)
  | end_
  | if_ (n : String) (y z : PT)
  | while_ (n : String) (w : Bool) (b : PT)
  | forever (b : PT)
  | row (l : List PT)
mutual
def emb : PT → D
  | .do_ n => .tup [.str "do", .str n]
  | .ret n => .tup [.str "return", .str n]
  | .go n => .tup [.str "go", .str n]
  | .end_ => .tup [.str "end"]
  | .if_ n y z => .tup [.str "if", .str n, emb y, emb z]
  | .while_ n w b => .tup [.str "while", .str n, .bl w, emb b]
  | .forever b => .tup [.str "forever", emb b]
  | .row l => .tup [.str "row", .tup (embs l)]
def embs : List PT → List D
  | [] => []
  | t :: r => emb t :: embs r
end
def isRow : PT → Bool
  | .row _ => true
  | _ => false
def isNil : PT → Bool
  | .row [] => true
  | _ => false
mutual
def good : PT → Bool
  | .do_ n => nameB n
  | .ret n => nameB n
  | .go n => nameB n
  | .end_ => true
  | .if_ n y z => nameB n && good y && good z
  | .while_ n _ b => nameB n && good b
  | .forever b => !isNil b && good b
  | .row l => decide (l.length ≠ 1) && goods l
def goods : List PT → Bool
  | [] => true
  | t :: r => !isRow t && good t && goods r
end
mutual
def units : PT → Nat
  | .if_ _ y z => 1 + units y + units z
  | .while_ _ _ b => 1 + units b
  | .forever b => 1 + units b
  | .row l => 1 + unitsL l
  | _ => 1
def unitsL : List PT → Nat
  | [] => 0
  | t :: r => units t + unitsL r
end
mutual
def deep : PT → Nat
  | .if_ _ y z => 1 + max (deep y) (deep z)
  | .while_ _ _ b => 1 + deep b
  | .forever b => 1 + deep b
  | .row l => max 1 (deepL l)
  | _ => 1
def deepL : List PT → Nat
  | [] => 0
  | t :: r => max (deep t) (deepL r)
end
theorem embs_map : ∀ l : List PT, embs l = l.map emb
  | [] => rfl
  | t :: r => by rw [embs, List.map_cons, embs_map r]
theorem goods_all : ∀ l : List PT, goods l = l.all fun t => !isRow t && good t
  | [] => rfl
  | t :: r => by rw [goods, List.all_cons, goods_all r]
theorem unitsL_app : ∀ (l k : List PT), unitsL (l ++ k) = unitsL l + unitsL k
  | [], k => by simp [unitsL]
  | t :: r, k => by simp [unitsL, unitsL_app r k]; omega
theorem deepL_app : ∀ (l k : List PT), deepL (l ++ k) = max (deepL l) (deepL k)
  | [], k => by simp [deepL]
  | t :: r, k => by simp [deepL, deepL_app r k, Nat.max_assoc]
theorem emb_box (t : PT) : box (emb t) = false := by cases t <;> simp [emb, box]
theorem emb_leak (t : PT) (fl : Fl) : leakOk (emb t, fl) = true := by simp [leakOk, emb_box]
theorem good_deep1 (t : PT) : 1 ≤ deep t := by cases t <;> simp [deep] <;> (first | done | omega)
/-! ### the kit -/
def kitD (names : List String) (left : Int) : D := .dk [(.str "names", .lst (names.map D.str)), (.str "left", .int left), (.str "gos", .lst [.str "m"])]
def KitOk (names : List String) : Prop := 0 < names.length ∧ names.length ≤ 1000 ∧ ∀ x ∈ names, nameB x = true
theorem kit_at {S Xp : Store} {names : List String} {left T : Int} (h : St S (Xp ++ [kitD names left]) T) : S[2 + Xp.length]? = some (kitD names left) := by
  obtain ⟨ls, cells, rest, turn, e, _⟩ := h
  subst e
  rw [show 2 + Xp.length = Xp.length + 1 + 1 by omega]
  simp [stS]
theorem kit_put {S Xp : Store} {names : List String} {left l' T : Int} (h : St S (Xp ++ [kitD names left]) T) : St (S.set (2 + Xp.length) (kitD names l')) (Xp ++ [kitD names l']) T := by
  obtain ⟨ls, cells, rest, turn, e, o⟩ := h
  subst e
  refine ⟨ls, cells, rest, turn, ?_, o⟩
  rw [show 2 + Xp.length = Xp.length + 1 + 1 by omega]
  simp [stS]
/-- an item of the kit -/
theorem kit_get {ρ : Loc} {S Xp : Store} {names : List String} {left T : Int} {i : Nat} {fl : Fl} {x : String} {d : D} (h : St S (Xp ++ [kitD names left]) T) (hi : ρ[i]? = some (some (.obj (2 + Xp.length), fl))) (hf : Sarg fl)
    (hx : getK [(D.str "names", .lst (names.map D.str)), (.str "left", .int left), (.str "gos", .lst [.str "m"])] (.str x) = some d) : sOp2 oDGet (sVar i) (sCst (.str x)) ρ S = .ok (d, .sh) S := by
  have k := kit_at h
  refine ev2 (evVar hi hf) evC ?_
  have hv : view S (.obj (2 + Xp.length)) = kitD names left := by
    show S.getD (2 + Xp.length) _ = _
    rw [List.getD_eq_getElem?_getD, k]
    rfl
  simp only [oDGet, hv, kitD]
  simp [dKey, hx]
theorem kn {names : List String} {left : Int} : getK [(D.str "names", .lst (names.map D.str)), (.str "left", .int left), (.str "gos", .lst [.str "m"])] (.str "names") = some (.lst (names.map D.str)) := by simp [getK_cons, deq]
theorem kl {names : List String} {left : Int} : getK [(D.str "names", .lst (names.map D.str)), (.str "left", .int left), (.str "gos", .lst [.str "m"])] (.str "left") = some (.int left) := by simp [getK_cons, deq]
theorem kg {names : List String} {left : Int} : getK [(D.str "names", .lst (names.map D.str)), (.str "left", .int left), (.str "gos", .lst [.str "m"])] (.str "gos") = some (.lst [.str "m"]) := by simp [getK_cons, deq]
/-! ### the last of a row: a leaf -/
def Leaf (t : PT) : Prop := good t = true ∧ isRow t = false ∧ units t = 1 ∧ deep t = 1
def LastOk (F : SF) : Prop := ∀ (S Xp : Store) (T left : Int) (names : List String) (fl f2 : Fl), Sarg fl → Sarg f2 → KitOk names → St S (Xp ++ [kitD names left]) T → T + 3 < lim →
  ∃ t S', Leaf t ∧ St S' (Xp ++ [kitD names left]) (T + 3) ∧ F [(.obj 1, fl), (.obj (2 + Xp.length), f2)] S = .ok (emb t, .sh) S'
theorem last_sem {E : Sem} (hp : PickOk E.L_pick) : LastOk (step E).L_last := by
  intro S Xp T left names fl f2 hfl hf2 hk hS hT
  show ∃ t S', _ ∧ _ ∧ bodyF 4 (v_L_last E) [(.obj 1, fl), (.obj (2 + Xp.length), f2)] S = _
  have en : entry 4 [(.obj 1, fl), (.obj (2 + Xp.length), f2)] = [some (.obj 1, lend fl), some (.obj (2 + Xp.length), lend f2), none, none] := rfl
  have lf := lend_st hfl
  have lf2 := lend_st hf2
  unfold lim at hT
  obtain ⟨k0, k1, k2⟩ := hk
  obtain ⟨a, S1, ha, hS1, e1⟩ := hp S _ T (lend fl) .sh (.lst (names.map D.str)) _ lf hS (by unfold lim; omega) rfl (by simpa using k0) (by simp; omega)
  obtain ⟨x, hx, rfl⟩ := List.mem_map.mp ha
  have nx := k2 x hx
  obtain ⟨b, S2, hb, hS2, e2⟩ := hp S1 _ (T + 1) (lend fl) .sh (.lst [.str "m"]) _ lf hS1 (by unfold lim; omega) rfl (by decide) (by decide)
  simp only [List.mem_singleton] at hb
  subst hb
  obtain ⟨c, S3, hc, hS3, e3⟩ := hp S2 _ (T + 1 + 1) (lend fl) .own (.lst ((List.replicate 5 [emb (.do_ x)]).flatten ++ [emb (.ret x), emb .end_] ++ (List.replicate 2 [emb (.go "m")]).flatten)) _ lf hS2 (by unfold lim; omega) rfl (by simp) (by simp)
  have hc' : ∃ t, Leaf t ∧ c = emb t := by
    have : c = emb (.do_ x) ∨ c = emb (.ret x) ∨ c = emb .end_ ∨ c = emb (.go "m") := by
      simp [List.replicate] at hc
      rcases hc with h | h | h | h
      · exact .inl h
      · exact .inr (.inl h)
      · exact .inr (.inr (.inl h))
      · exact .inr (.inr (.inr h))
    rcases this with h | h | h | h
    · exact ⟨.do_ x, ⟨nx, rfl, rfl, rfl⟩, h⟩
    · exact ⟨.ret x, ⟨nx, rfl, rfl, rfl⟩, h⟩
    · exact ⟨.end_, ⟨rfl, rfl, rfl, rfl⟩, h⟩
    · exact ⟨.go "m", ⟨by decide, rfl, rfl, rfl⟩, h⟩
  obtain ⟨t, ht, rfl⟩ := hc'
  refine ⟨t, S3, ht, by simpa [Int.add_assoc] using hS3, body_rt ?_⟩
  rw [en]
  unfold v_L_last
  have s1 : sSet 2 (sCall 2 E.L_pick [] (sCons (sVar 0) (sCons (sOp2 oDGet (sVar 1) (sCst (.str "names"))) sNil))) [some (.obj 1, lend fl), some (.obj (2 + Xp.length), lend f2), none, none] S = .nx [some (.obj 1, lend fl), some (.obj (2 + Xp.length), lend f2), some (.str x, .sh), none] S1 :=
    set_nx (evCall (evCons (evVar rfl lf) (evArgs1 (kit_get (i := 1) hS rfl lf2 kn))) rfl e1) rfl
  have s2 : sSet 3 (sIf (sT (sOp2 oNe (sOp2 oDGet (sVar 1) (sCst (.str "gos"))) (sLst sNil))) (sLst (sCons (sTup (sCons (sCst (.str "go")) (sCons (sCall 2 E.L_pick [] (sCons (sVar 0) (sCons (sOp2 oDGet (sVar 1) (sCst (.str "gos"))) sNil))) sNil))) sNil)) (sLst sNil)) [some (.obj 1, lend fl), some (.obj (2 + Xp.length), lend f2), some (.str x, .sh), none] S1 =
      .nx [some (.obj 1, lend fl), some (.obj (2 + Xp.length), lend f2), some (.str x, .sh), some (.lst [emb (.go "m")], .sh)] S2 := by
    refine set_nx (r := (.lst [emb (.go "m")], .own)) ?_ rfl
    rw [evIf (c := true) (evT (fl := .sh) (ev2 (kit_get (i := 1) hS1 rfl lf2 kg) (evLst evNil rfl (by decide)) (by simp [oNe, view, plain, plains, dep, deps, deq, deqs]))), if_pos rfl]
    exact evLst (evArgs1 (evTup (evCons evC (evArgs1 (evCall (evCons (evVar rfl lf) (evArgs1 (kit_get (i := 1) hS1 rfl lf2 kg))) rfl e2))) rfl (by decide))) rfl (by decide)
  rw [seq_nx s1, seq_nx s2]
  refine seq_rt (ret_rt (r := (emb t, .sh)) (evCall (evCons (evVar rfl lf) (evArgs1 (r := (.lst ((List.replicate 5 [emb (.do_ x)]).flatten ++ [emb (.ret x), emb .end_] ++ (List.replicate 2 [emb (.go "m")]).flatten), .own)) ?_)) rfl e3) (emb_leak _ _))
  refine ev2 (a := (.lst ((List.replicate 5 [emb (.do_ x)]).flatten ++ [emb (.ret x), emb .end_]), .own)) (b := (.lst (List.replicate 2 [emb (.go "m")]).flatten, .own)) (ev2 (a := (.lst (List.replicate 5 [emb (.do_ x)]).flatten, .own)) (b := (.lst [emb (.ret x), emb .end_], .own)) (ev2 (a := (.lst [emb (.do_ x)], .own)) (b := (.int 5, .sh)) (evLst (evArgs1 (evTup (evCons evC (evArgs1 (evVar rfl (.inr rfl)))) rfl (small (by simp)))) rfl (small (by simp))) evC ?_)
    (evLst (evCons (evTup (evCons evC (evArgs1 (evVar rfl (.inr rfl)))) rfl (small (by simp))) (evArgs1 (evTup (evArgs1 evC) rfl (small (by simp))))) rfl (small (by simp))) ?_) (ev2 (a := (.lst [emb (.go "m")], .sh)) (b := (.int 2, .sh)) (evVar rfl (.inr rfl)) evC ?_) ?_
  · have c : (-(2 ^ 63) ≤ (5 : Int) ∧ (5 : Int) < 2 ^ 63 ∧ [emb (PT.do_ x)].length * (5 : Int).toNat ≤ PySem.sizeLine) := ⟨by decide, by decide, by simp; decide⟩
    simp only [oMul, view]
    rw [if_pos c]
    rfl
  · simp only [oAdd, view]
    rw [if_pos (small (by simp))]
  · have c : (-(2 ^ 63) ≤ (2 : Int) ∧ (2 : Int) < 2 ^ 63 ∧ [emb (PT.go "m")].length * (2 : Int).toNat ≤ PySem.sizeLine) := ⟨by decide, by decide, by simp; decide⟩
    simp only [oMul, view]
    rw [if_pos c]
    rfl
  · simp only [oAdd, view]
    rw [if_pos (small (by simp))]
end K25

set_option maxRecDepth 100000
/-! Symbolic evaluation, head first: what an expression, a statement comes to, by what is wanted behind it. -/
namespace DE
open DL
def WR {α : Type} (t : R α) (Q : α → Store → Prop) : Prop := match t with
  | .ok a S => Q a S
  | _ => False
/-- N behind it, R what is handed back, B a break, C a continue -/
structure Ks where
  N : Loc → Store → Prop
  R : RV → Store → Prop
  B : Loc → Store → Prop
  C : Loc → Store → Prop
def WO (o : O) (k : Ks) : Prop := match o with
  | .nx ρ S => k.N ρ S
  | .rt r S => k.R r S
  | .bk ρ S => k.B ρ S
  | .ct ρ S => k.C ρ S
  | _ => False
theorem WR.mono {α : Type} {t : R α} {P Q : α → Store → Prop} (h : WR t P) (i : ∀ a S, P a S → Q a S) : WR t Q := by
  cases t with
  | ok a S => exact i a S h
  | exc x S => exact h
  | bad => exact h
theorem WR.ex {α : Type} {t : R α} {Q : α → Store → Prop} (h : WR t Q) : ∃ a S, t = .ok a S ∧ Q a S := by
  cases t with
  | ok a S => exact ⟨a, S, rfl, h⟩
  | exc x S => exact h.elim
  | bad => exact h.elim
theorem WR.of {α : Type} {t : R α} {Q : α → Store → Prop} {a : α} {S : Store} (e : t = .ok a S) (h : Q a S) : WR t Q := by subst e; exact h
theorem WR_congr {α : Type} {t t' : R α} {Q : α → Store → Prop} (h : t = t') : WR t Q = WR t' Q := by rw [h]
theorem WO_congr {o o' : O} {k : Ks} (h : o = o') : WO o k = WO o' k := by rw [h]
section
variable {α β : Type} {ρ : Loc} {S : Store}
theorem w_bad {Q : α → Store → Prop} : WR (.bad : R α) Q = False := rfl
theorem w_exc {x : D} {Q : α → Store → Prop} : WR (.exc x S : R α) Q = False := rfl
theorem o_nx {ρ : Loc} {S : Store} {k : Ks} : WO (.nx ρ S) k = k.N ρ S := rfl
theorem o_bad {k : Ks} : WO .bad k = False := rfl
theorem w_ok {a : α} {Q : α → Store → Prop} : WR (.ok a S) Q = Q a S := rfl
theorem w_bind {r : R α} {f : α → Store → R β} {Q : β → Store → Prop} : WR (r.bind f) Q = WR r fun a S1 => WR (f a S1) Q := by cases r <;> rfl
theorem w_go {r : R α} {f : α → Store → R β} {x : D → Store → R β} (hx : ∀ a b, x a b = .bad ∨ x a b = .exc a b) {Q : β → Store → Prop} : WR (r.go x .bad f) Q = WR r fun a S1 => WR (f a S1) Q := by
  cases r with
  | ok a S => rfl
  | exc d S => rcases hx d S with h | h <;> (show WR (x d S) Q = False; rw [h]; rfl)
  | bad => rfl
theorem w_goS {r : R α} {f : α → Store → O} {k : Ks} : WO (goS r ρ f) k = WR r fun a S1 => WO (f a S1) k := by cases r <;> rfl
theorem w_opt {o : Option RV} {Q : RV → Store → Prop} : WR (opt o S) Q = ∃ q, o = some q ∧ Q q S := by
  cases o with
  | none => exact propext ⟨fun h => h.elim, fun ⟨_, e, _⟩ => by cases e⟩
  | some q => exact propext ⟨fun h => ⟨q, rfl, h⟩, fun ⟨_, e, h⟩ => by cases e; exact h⟩
theorem w_opt_some {q : RV} {Q : RV → Store → Prop} : WR (opt (some q) S) Q = Q q S := rfl
theorem w_ite {c : Prop} [Decidable c] {a b : R α} {Q : α → Store → Prop} : WR (if c then a else b) Q = if c then WR a Q else WR b Q := by split <;> rfl
theorem o_ite {c : Prop} [Decidable c] {a b : O} {k : Ks} : WO (if c then a else b) k = if c then WO a k else WO b k := by split <;> rfl
theorem w_iteB {c : Prop} [Decidable c] {a : R α} {Q : α → Store → Prop} : WR (if c then a else .bad) Q = (c ∧ WR a Q) := by
  split
  · rename_i h; simp [h]
  · rename_i h; simp [h, w_bad]
theorem o_iteB {c : Prop} [Decidable c] {a : O} {k : Ks} : WO (if c then a else .bad) k = (c ∧ WO a k) := by
  split
  · rename_i h; simp [h]
  · rename_i h; simp [h, o_bad]
variable {Q : RV → Store → Prop} {k : Ks}
/-! expressions -/
/-- a name that holds something anyone's, or lent -/
def look (ρ : Loc) (i : Nat) : Option RV := match ρ[i]? with
  | some (some (d, .sh)) => some (d, .sh)
  | some (some (d, .bor)) => some (d, .bor)
  | some (some (d, .own)) => some (d, .mine)
  | _ => none
theorem w_look {i : Nat} : WR (sVar i ρ S) Q = WR (opt (look ρ i) S) Q := by
  unfold sVar look
  cases h : ρ[i]? with
  | none => rfl
  | some o =>
    cases o with
    | none => rfl
    | some r => obtain ⟨d, fl⟩ := r; cases fl <;> rfl
theorem w_cst {d : D} : WR (sCst d ρ S) Q = Q (d, .sh) S := rfl
theorem w_nil {Q : List RV → Store → Prop} : WR (sNil ρ S) Q = Q [] S := rfl
theorem w_cons {f : SE} {fs : SA} {Q : List RV → Store → Prop} : WR (sCons f fs ρ S) Q = WR (f ρ S) fun r S1 => WR (fs ρ S1) fun rs S2 => Q (r :: rs) S2 := by
  unfold sCons; simp only [w_bind, w_ok]
theorem w_tup {fs : SA} : WR (sTup fs ρ S) Q = WR (fs ρ S) fun rs S1 => (rs.all leakOk = true ∧ rs.length ≤ PySem.sizeLine) ∧ Q (.tup (rs.map (·.1)), .sh) S1 := by
  unfold sTup; simp only [w_bind, w_iteB, w_ok]
theorem w_lst {fs : SA} : WR (sLst fs ρ S) Q = WR (fs ρ S) fun rs S1 => (rs.all leakOk = true ∧ rs.length ≤ PySem.sizeLine) ∧ Q (.lst (rs.map (·.1)), .own) S1 := by
  unfold sLst; simp only [w_bind, w_iteB, w_ok]
def asB (d : D) : Option Bool := match d with
  | .bl b => some b
  | _ => none
theorem w_T {f : SE} {Q : Bool → Store → Prop} : WR (sT f ρ S) Q = WR (f ρ S) fun r S1 => ∃ b, asB r.1 = some b ∧ Q b S1 := by
  unfold sT
  rw [w_bind]
  refine congrArg (WR _) (funext fun r => funext fun S1 => ?_)
  cases e : r.1 <;> simp [asB, w_ok, w_bad]
theorem w_if {t : ST} {f g : SE} : WR (sIf t f g ρ S) Q = WR (t ρ S) fun b S1 => if b = true then WR (f ρ S1) Q else WR (g ρ S1) Q := by
  unfold sIf; simp only [w_bind, w_ite]
theorem w_and {f g : SE} : WR (sAnd f g ρ S) Q = WR (f ρ S) fun r S1 => ∃ b, asB r.1 = some b ∧ if b = true then WR (g ρ S1) Q else Q (.bl false, .sh) S1 := by
  unfold sAnd
  rw [w_bind]
  refine congrArg (WR _) (funext fun r => funext fun S1 => ?_)
  cases e : r.1 <;> simp [asB, w_ok, w_bad]
  rename_i b
  cases b <;> simp [w_ok]
theorem w_or {f g : SE} : WR (sOr f g ρ S) Q = WR (f ρ S) fun r S1 => ∃ b, asB r.1 = some b ∧ if b = true then Q (.bl true, .sh) S1 else WR (g ρ S1) Q := by
  unfold sOr
  rw [w_bind]
  refine congrArg (WR _) (funext fun r => funext fun S1 => ?_)
  cases e : r.1 <;> simp [asB, w_ok, w_bad]
  rename_i b
  cases b <;> simp [w_ok]
theorem w_not {f : SE} : WR (sNot f ρ S) Q = WR (f ρ S) fun r S1 => ∃ b, asB r.1 = some b ∧ Q (.bl (!b), .sh) S1 := by
  unfold sNot
  rw [w_bind]
  refine congrArg (WR _) (funext fun r => funext fun S1 => ?_)
  cases e : r.1 <;> simp [asB, w_ok, w_bad]
variable {QB : Bool → Store → Prop}
theorem w_tand {s t : ST} : WR (tAndS s t ρ S) QB = WR (s ρ S) fun b S1 => if b = true then WR (t ρ S1) QB else QB false S1 := by
  unfold tAndS; simp only [w_bind, w_ite, w_ok]
theorem w_tor {s t : ST} : WR (tOrS s t ρ S) QB = WR (s ρ S) fun b S1 => if b = true then QB true S1 else WR (t ρ S1) QB := by
  unfold tOrS; simp only [w_bind, w_ite, w_ok]
theorem w_tnot {s : ST} : WR (tNotS s ρ S) QB = WR (s ρ S) fun b S1 => QB (!b) S1 := by
  unfold tNotS; simp only [w_bind, w_ok]
theorem w_op2 {op : RV → RV → Store → Option RV} {f g : SE} : WR (sOp2 op f g ρ S) Q = WR (f ρ S) fun r S1 => WR (g ρ S1) fun q S2 => WR (opt (op r q S2) S2) Q := by
  unfold sOp2; simp only [w_bind]
theorem w_op1 {op : RV → Store → Option RV} {f : SE} : WR (sOp1 op f ρ S) Q = WR (f ρ S) fun r S1 => WR (opt (op r S1) S1) Q := by
  unfold sOp1; simp only [w_bind]
theorem w_opN {op : List RV → Store → Option RV} {fs : SA} : WR (sOpN op fs ρ S) Q = WR (fs ρ S) fun rs S1 => WR (opt (op rs S1) S1) Q := by
  unfold sOpN; simp only [w_bind]
theorem w_b1 {op : RV → Store → Option RV} {f : SE} : WR (sB1 op f ρ S) Q = WR (f ρ S) fun r S1 => WR (opt (op r S1) S1) Q := by
  unfold sB1; simp only [w_opN, w_cons, w_nil, on1]
theorem w_b2 {op : RV → RV → Store → Option RV} {f g : SE} : WR (sB2 op f g ρ S) Q = WR (f ρ S) fun r S1 => WR (g ρ S1) fun q S2 => WR (opt (op r q S2) S2) Q := by
  unfold sB2; simp only [w_opN, w_cons, w_nil, on2]
theorem w_chain {op op' : RV → RV → Store → Option RV} {f u v : SE} : WR (sChain op op' f u v ρ S) Q = WR (f ρ S) fun x S1 => WR (u ρ S1) fun y S2 => WR (opt (op x y S2) S2) fun k S3 => ∃ b, asB k.1 = some b ∧ if b = true then WR (v ρ S3) fun z S4 => WR (opt (op' y z S4) S4) Q else Q (.bl false, .sh) S3 := by
  unfold sChain
  simp only [w_bind]
  refine congrArg (WR _) (funext fun x => funext fun S1 => ?_)
  refine congrArg (WR _) (funext fun y => funext fun S2 => ?_)
  refine congrArg (WR _) (funext fun r => funext fun S3 => ?_)
  cases e : r.1 <;> simp [asB, w_ok, w_bad]
  rename_i b
  cases b <;> simp [w_bind, w_ok]
theorem w_call {np : Nat} {F : SF} {drs : List RV} {fs : SA} : WR (sCall np F drs fs ρ S) Q = WR (fs ρ S) fun rs S1 => (rs ++ drs).length = np ∧ WR (F (rs ++ drs) S1) Q := by
  unfold sCall
  simp only [w_bind, w_iteB]
  refine congrArg (WR _) (funext fun rs => funext fun S1 => ?_)
  refine congrArg (And _) ?_
  cases F (rs ++ drs) S1 <;> rfl
theorem w_make {np : Nat} {F : SF} {drs : List RV} {fs : SA} : WR (sMake np F drs fs ρ S) Q = WR (fs ρ S) fun rs S1 => (rs ++ drs).length + 1 = np ∧ WR (F (rs ++ drs) S1) Q := by
  unfold sMake
  simp only [w_bind, w_iteB]
  refine congrArg (WR _) (funext fun rs => funext fun S1 => ?_)
  refine congrArg (And _) ?_
  cases F (rs ++ drs) S1 <;> rfl
def asIns (d : D) : Option (Nat × List (String × D)) := match d with
  | .ins c fs => some (c, fs)
  | _ => none
theorem w_prop {F : SF} {okc : Nat → Bool} {f : SE} : WR (sProp F okc f ρ S) Q = WR (f ρ S) fun r S1 => ∃ p, asIns r.1 = some p ∧ okc p.1 = true ∧ WR (F [(.ins p.1 p.2, lend r.2)] S1) Q := by
  unfold sProp
  simp only [w_bind]
  refine congrArg (WR _) (funext fun r => funext fun S1 => ?_)
  cases e : r.1 <;> simp [asIns, w_bad]
  rename_i c fs
  by_cases h : okc c = true
  · simp only [h, if_true, true_and]
    cases F [(.ins c fs, lend r.2)] S1 <;> rfl
  · simp [h, w_bad]
theorem w_own2 {F : SF} {okc : Nat → Bool} {f u : SE} : WR (sOwn2 F okc f u ρ S) Q = WR (f ρ S) fun a S1 => WR (u ρ S1) fun b S2 => (∃ p, asIns a.1 = some p ∧ okc p.1 = true) ∧ ((∃ i, b.1 = .int i) ∨ ∃ p, asIns b.1 = some p ∧ okc p.1 = true) ∧ WR (F [(a.1, lend a.2), (b.1, lend b.2)] S2) Q := by
  unfold sOwn2
  simp only [w_bind]
  refine congrArg (WR _) (funext fun a => funext fun S1 => ?_)
  refine congrArg (WR _) (funext fun b => funext fun S2 => ?_)
  have m : ∀ t : R RV, WR (match t with
      | .ok r S3 => .ok r S3
      | _ => .bad) Q = WR t Q := fun t => by cases t <;> rfl
  cases e : a.1 with
  | ins c fs =>
    cases e2 : b.1 with
    | ins c' fs' =>
      simp only [w_iteB, asIns, Option.some.injEq, exists_eq_left', reduceCtorEq, exists_false, false_or, and_assoc]
      refine congrArg (And _) (congrArg (And _) ?_)
      cases F [(D.ins c fs, lend a.snd), (D.ins c' fs', lend b.snd)] S2 <;> rfl
    | int i =>
      simp only [w_iteB, asIns, Option.some.injEq, exists_eq_left', D.int.injEq, exists_eq', true_or, true_and]
      refine congrArg (And _) ?_
      cases F [(D.ins c fs, lend a.snd), (D.int i, lend b.snd)] S2 <;> rfl
    | _ => simp [asIns, w_bad]
  | _ => simp [asIns, w_bad]
theorem w_fld {x : String} {okc : Nat → Bool} {f : SE} : WR (sFld x f okc ρ S) Q = WR (f ρ S) fun r S1 => ∃ p, asIns (view S1 r.1) = some p ∧ okc p.1 = true ∧ WR (opt ((getN p.2 x).map fun d => (d, .sh)) S1) Q := by
  unfold sFld
  simp only [w_bind]
  refine congrArg (WR _) (funext fun r => funext fun S1 => ?_)
  cases e : view S1 r.1 <;> simp [asIns, w_bad]
  rename_i c fs
  by_cases h : okc c = true
  · simp only [h, if_true, true_and]
    cases getN fs x <;> rfl
  · simp [h, w_bad]
def asInt (d : D) : Option Int := match d with
  | .int i => some i
  | _ => none
def one (rs : List RV) : Option RV := match rs with
  | [r] => some r
  | _ => none
theorem w_lenO {F : SF} {okc : Nat → Bool} {fs : SA} : WR (sLenO F okc fs ρ S) Q = WR (fs ρ S) fun rs S1 => ∃ r, one rs = some r ∧ match asIns (view S1 r.1) with
    | some p => okc p.1 = true ∧ WR (F [(r.1, lend r.2)] S1) fun q S2 => ∃ n, asInt q.1 = some n ∧ (0 ≤ n ∧ n < 2 ^ 63) ∧ Q (.int n, .sh) S2
    | none => WR (opt (oLen r S1) S1) Q := by
  unfold sLenO
  simp only [w_bind]
  refine congrArg (WR _) (funext fun rs => funext fun S1 => ?_)
  match rs with
  | [] => simp [w_bad, one]
  | [r] =>
    simp only [one, Option.some.injEq, exists_eq_left']
    cases e : view S1 r.1 with
    | ins c gs =>
      simp only [w_iteB, asIns]
      refine congrArg (And _) ?_
      cases F [(r.1, lend r.2)] S1 with
      | ok q S2 =>
        obtain ⟨d, fl⟩ := q
        cases d with
        | int n => simp only [w_iteB, w_ok, asInt, Option.some.injEq, exists_eq_left']
        | _ => simp [w_bad, w_ok, asInt]
      | exc x S2 => rfl
      | bad => rfl
    | _ => rfl
  | r :: q :: t => simp [w_bad, one]
theorem w_isi {p : D → Option Bool} {f : SE} : WR (sIsi p f ρ S) Q = WR (f ρ S) fun r S1 => WR (opt ((p (view S1 r.1)).map fun b => (.bl b, .sh)) S1) Q := by
  unfold sIsi
  simp only [w_bind]
  refine congrArg (WR _) (funext fun r => funext fun S1 => ?_)
  cases p (view S1 r.1) <;> rfl
theorem w_new {f : SE} : WR (sNew f ρ S) Q = WR (f ρ S) fun r S1 => r.2 = .own ∧ Q (.obj S1.length, .sh) (S1 ++ [r.1]) := by
  unfold sNew; simp only [w_bind, w_iteB, w_ok]
theorem w_noPart {Q : Option Int → Store → Prop} : WR (sNoPart ρ S) Q = Q none S := rfl
theorem w_part {f : SE} {Q : Option Int → Store → Prop} : WR (sPart f ρ S) Q = WR (f ρ S) fun r S1 => ∃ i, asInt r.1 = some i ∧ Q (some i) S1 := by
  unfold sPart
  rw [w_bind]
  refine congrArg (WR _) (funext fun r => funext fun S1 => ?_)
  cases e : r.1 <;> simp [asInt, w_ok, w_bad]
theorem w_sl {f : SE} {lo hi : SO} : WR (sSl f lo hi ρ S) Q = WR (f ρ S) fun r S1 => WR (lo ρ S1) fun l S2 => WR (hi ρ S2) fun u S3 => WR (opt (oSl r l u S3) S3) Q := by
  unfold sSl; simp only [w_bind]
theorem w_seqI {f : SE} {Q : List D → Store → Prop} : WR (sSeqI f ρ S) Q = WR (f ρ S) fun r S1 => ∃ ds, seqOf r = some ds ∧ Q ds S1 := by
  unfold sSeqI
  rw [w_bind]
  refine congrArg (WR _) (funext fun r => funext fun S1 => ?_)
  cases seqOf r <;> simp [w_ok, w_bad]
def rng1 (rs : List RV) : Option Int := match rs with
  | [(.int j, _)] => some j
  | _ => none
theorem w_rng1 {fs : SA} {Q : List D → Store → Prop} : WR (sRng1 fs ρ S) Q = WR (fs ρ S) fun rs S1 => ∃ j, rng1 rs = some j ∧ (-(2 ^ 62) ≤ j ∧ j < 2 ^ 62) ∧ Q (rngD 0 j.toNat) S1 := by
  unfold sRng1
  rw [w_bind]
  refine congrArg (WR _) (funext fun rs => funext fun S1 => ?_)
  unfold rng1
  split
  · simp only [w_iteB, w_ok, Option.some.injEq, exists_eq_left']
  · simp [w_bad]
theorem w_lc {fi : SI} {t : Tgt} {c : ST} {f : SE} {vs : List Nat} : WR (sLc fi t c f vs ρ S) Q = WR (fi ρ S) fun ds S1 => ds.length < PySem.sizeLine ∧ WR (lcI t c f (wipeL ρ vs) ds S1) fun rs S2 => Q (.lst rs, .own) S2 := by
  unfold sLc; simp only [w_bind, w_iteB, w_ok]
theorem w_lc0 {t : Tgt} {c : ST} {f : SE} {Q : List D → Store → Prop} : WR (lcI t c f ρ [] S) Q = Q [] S := rfl
theorem w_lc1 {i : Nat} {f : SE} {d : D} {ds : List D} {Q : List D → Store → Prop} : WR (lcI (gNm i) sYes f ρ (d :: ds) S) Q = WR (f (ρ.set i (some (d, .sh))) S) fun r S1 => leakOk r = true ∧ WR (lcI (gNm i) sYes f ρ ds S1) fun rs S2 => Q (r.1 :: rs) S2 := by
  rw [lcI]
  simp only [gNm, sYes, R.go, if_true]
  cases f (ρ.set i (some (d, .sh))) S with
  | ok r S1 =>
    simp only [R.go, w_iteB, w_bind, w_ok, w_bad]
  | exc x S1 => rfl
  | bad => rfl
theorem w_lcT {i : Nat} {c : ST} {f : SE} {d : D} {ds : List D} {Q : List D → Store → Prop} : WR (lcI (gNm i) c f ρ (d :: ds) S) Q = WR (c (ρ.set i (some (d, .sh))) S) fun k S0 => if k = true then (WR (f (ρ.set i (some (d, .sh))) S0) fun r S1 => leakOk r = true ∧ WR (lcI (gNm i) c f ρ ds S1) fun rs S2 => Q (r.1 :: rs) S2) else WR (lcI (gNm i) c f ρ ds S0) Q := by
  rw [lcI]
  show WR ((c (ρ.set i (some (d, .sh))) S).go _ _ _) Q = _
  rw [w_go (fun _ _ => .inl rfl)]
  refine congrArg (WR _) (funext fun k => funext fun S0 => ?_)
  rw [w_ite, w_go (fun _ _ => .inl rfl)]
  simp only [w_iteB, w_bind, w_ok]
theorem w_dict0 {Q : List (D × D) → Store → Prop} : WR (prI [] ρ S) Q = Q [] S := rfl
theorem w_dict1 {f u : SE} {ps : List (SE × SE)} {Q : List (D × D) → Store → Prop} : WR (prI ((f, u) :: ps) ρ S) Q = WR (f ρ S) fun k S1 => WR (u ρ S1) fun v S2 => ((dKey k.1).isSome = true ∧ leakOk v = true) ∧ WR (prI ps ρ S2) fun qs S3 => Q ((k.1, v.1) :: qs) S3 := by
  rw [prI]
  rw [w_go (fun _ _ => .inl rfl)]
  refine congrArg (WR _) (funext fun k => funext fun S1 => ?_)
  rw [w_go (fun _ _ => .inl rfl)]
  refine congrArg (WR _) (funext fun v => funext fun S2 => ?_)
  simp only [w_iteB, w_bind, w_ok]
theorem w_dict {ps : List (SE × SE)} : WR (sDict ps ρ S) Q = WR (prI ps ρ S) fun kvs S1 => kvs.length ≤ 15 ∧ Q (.dk (mergeD [] kvs), .own) S1 := by
  unfold sDict
  rw [w_go (fun _ _ => .inl rfl)]
  simp only [w_iteB, w_ok]
def asDk (d : D) : Option (List (D × D)) := match d with
  | .dk kvs => some kvs
  | _ => none
def optR (o z : Option RV) : Option RV := match o with
  | some q => some q
  | none => z
theorem w_get2 {f k u : SE} : WR (sGet2 f k u ρ S) Q = WR (f ρ S) fun o S1 => ∃ kvs, asDk o.1 = some kvs ∧ WR (k ρ S1) fun y S2 => WR (u ρ S2) fun z S3 => (dKey y.1).isSome = true ∧ WR (opt (optR ((getK kvs y.1).map fun d => (d, .sh)) (if leakOk z = true then some (z.1, .sh) else none)) S3) Q := by
  unfold sGet2
  rw [w_bind]
  refine congrArg (WR _) (funext fun o => funext fun S1 => ?_)
  cases e : o.1 <;> simp [asDk, w_bad]
  rename_i kvs
  simp only [w_bind, w_iteB]
  refine Iff.of_eq ?_
  refine congrArg (WR _) (funext fun y => funext fun S2 => ?_)
  refine congrArg (WR _) (funext fun z => funext fun S3 => ?_)
  congr
  cases getK kvs y.1 with
  | some d => rfl
  | none => simp only [Option.map_none, optR]; split <;> rfl
theorem w_join {f g : SE} : WR (sJoin f g ρ S) Q = WR (f ρ S) fun r S1 => ∃ x, r.1 = .str x ∧ WR (g ρ S1) fun q S2 => ∃ ys, (rowOf (view S2 q.1)).bind strsD = some ys ∧ (ys.map (·.length)).sum + ys.length * x.length ≤ 16777216 ∧ Q (.str (joinS x ys), .sh) S2 := by
  unfold sJoin
  rw [w_bind]
  refine congrArg (WR _) (funext fun r => funext fun S1 => ?_)
  cases e : r.1 <;> simp [w_bad]
  rename_i x
  simp only [w_bind]
  refine Iff.of_eq ?_
  refine congrArg (WR _) (funext fun q => funext fun S2 => ?_)
  cases (rowOf (view S2 q.1)).bind strsD with
  | none => simp [w_bad]
  | some ys => simp only [w_iteB, w_ok, Option.some.injEq, exists_eq_left']
/-! statements -/
theorem o_skip : WO (sSkip ρ S) k = k.N ρ S := rfl
theorem o_seq {s t : SS} : WO (sSeq s t ρ S) k = WO (s ρ S) { k with N := fun ρ1 S1 => WO (t ρ1 S1) k } := by
  unfold sSeq
  cases s ρ S <;> rfl
theorem o_drop {f : SE} : WO (sDrop f ρ S) k = WR (f ρ S) fun _ S1 => k.N ρ S1 := by unfold sDrop; rw [w_goS]; rfl
theorem o_ret {f : SE} : WO (sRet f ρ S) k = WR (f ρ S) fun r S1 => leakOk r = true ∧ k.R (r.1, if r.2 = .own then .own else .sh) S1 := by unfold sRet; rw [w_goS]; simp only [o_iteB]; rfl
theorem o_retN : WO (sRetN ρ S) k = k.R (.non, .sh) S := rfl
theorem o_set {i : Nat} {f : SE} : WO (sSet i f ρ S) k = WR (f ρ S) fun r S1 => leakOk r = true ∧ k.N (ρ.set i (some (r.1, .sh))) S1 := by unfold sSet; rw [w_goS]; simp only [o_iteB]; rfl
theorem o_own {i : Nat} {f : SE} : WO (sOwn i f ρ S) k = WR (f ρ S) fun r S1 => r.2 = .own ∧ k.N (ρ.set i (some (r.1, .own))) S1 := by unfold sOwn; rw [w_goS]; simp only [o_iteB]; rfl
theorem o_if {t : ST} {a b : SS} : WO (sIfS t a b ρ S) k = WR (t ρ S) fun c S1 => if c = true then WO (a ρ S1) k else WO (b ρ S1) k := by unfold sIfS; rw [w_goS]; simp only [o_ite]
theorem o_asg {t : Tgt} {f : SE} : WO (sAsg t f ρ S) k = WR (f ρ S) fun r S1 => leakOk r = true ∧ ∃ ρ', t r.1 ρ = some ρ' ∧ k.N ρ' S1 := by
  unfold sAsg
  rw [w_goS]
  simp only [o_iteB]
  refine congrArg (WR _) (funext fun r => funext fun S1 => ?_)
  cases t r.1 ρ <;> simp [o_bad, o_nx]
def two (rs : List RV) : Option (RV × RV) := match rs with
  | [r, q] => some (r, q)
  | _ => none
theorem o_par {i j : Nat} {fs : SA} : WO (sPar i j fs ρ S) k = WR (fs ρ S) fun rs S1 => ∃ p, two rs = some p ∧ (leakOk p.1 = true ∧ leakOk p.2 = true) ∧ k.N ((ρ.set i (some (p.1.1, .sh))).set j (some (p.2.1, .sh))) S1 := by
  unfold sPar
  rw [w_goS]
  refine congrArg (WR _) (funext fun rs => funext fun S1 => ?_)
  match rs with
  | [] => simp [two, o_bad]
  | [a] => simp [two, o_bad]
  | [a, b] =>
    simp only [two, o_iteB, Option.some.injEq, exists_eq_left']
    rfl
  | a :: b :: c :: t => simp [two, o_bad]
theorem o_for {f : SI} {t : Tgt} {b : SS} : WO (sFor f t b ρ S) k = WR (f ρ S) fun ds S1 => WO (forI t b ds ρ S1) k := by unfold sFor; rw [w_goS]
theorem o_for0 {t : Tgt} {b : SS} : WO (forI t b [] ρ S) k = k.N ρ S := rfl
theorem o_for1 {t : Tgt} {b : SS} {d : D} {ds : List D} : WO (forI t b (d :: ds) ρ S) k = ∃ ρ1, t d ρ = some ρ1 ∧ WO (b ρ1 S) { N := fun ρ2 S2 => WO (forI t b ds ρ2 S2) k, R := k.R, B := k.N, C := fun ρ2 S2 => WO (forI t b ds ρ2 S2) k } := by
  rw [forI]
  cases t d ρ with
  | none => simp [o_bad]
  | some ρ1 =>
    simp only [Option.some.injEq, exists_eq_left']
    cases b ρ1 S <;> rfl
theorem o_forN {i : Nat} {b : SS} {d : D} {ds : List D} : WO (forI (gNm i) b (d :: ds) ρ S) k = WO (b (ρ.set i (some (d, .sh))) S) { N := fun ρ2 S2 => WO (forI (gNm i) b ds ρ2 S2) k, R := k.R, B := k.N, C := fun ρ2 S2 => WO (forI (gNm i) b ds ρ2 S2) k } := by
  rw [o_for1]; simp only [gNm, Option.some.injEq, exists_eq_left']
def asObj (d : D) : Option Nat := match d with
  | .obj n => some n
  | _ => none
theorem o_put {fo fk fv : SE} : WO (sPut fo fk fv ρ S) k = WR (fv ρ S) fun v S1 => WR (fo ρ S1) fun o S2 => WR (fk ρ S2) fun y S3 => ∃ n, asObj o.1 = some n ∧ ∃ kvs, (S3[n]?).bind asDk = some kvs ∧ (leakOk v = true ∧ (dKey y.1).isSome = true ∧ kvs.length < PySem.sizeLine) ∧ k.N ρ (S3.set n (.dk (setK kvs y.1 v.1))) := by
  unfold sPut
  simp only [w_goS]
  refine congrArg (WR _) (funext fun v => funext fun S1 => ?_)
  refine congrArg (WR _) (funext fun o => funext fun S2 => ?_)
  refine congrArg (WR _) (funext fun y => funext fun S3 => ?_)
  cases e : o.1 <;> simp [asObj, o_bad]
  rename_i n
  cases e2 : S3[n]? with
  | none => simp [o_bad]
  | some d => cases d <;> simp [asDk, o_bad, o_iteB, o_nx]
def selfI (ρ : Loc) : Option (Nat × List (String × D)) := match ρ[(0 : Nat)]? with
  | some (some (.ins c fs, .own)) => some (c, fs)
  | _ => none
theorem o_fldS {x : String} {f : SE} {okc : Nat → Bool} : WO (sFldS x f okc ρ S) k = WR (f ρ S) fun r S1 => ∃ p, selfI ρ = some p ∧ (leakOk r = true ∧ okc p.1 = true ∧ p.2.length < 1000) ∧ k.N (ρ.set 0 (some (.ins p.1 (putN x r.1 p.2), .own))) S1 := by
  unfold sFldS
  simp only [w_goS]
  refine congrArg (WR _) (funext fun r => funext fun S1 => ?_)
  unfold selfI
  split
  · rename_i h
    simp only [o_iteB, h, Option.some.injEq, exists_eq_left', o_nx]
  · rename_i h
    refine propext ⟨fun q => q.elim, ?_⟩
    rintro ⟨p, e, _⟩
    first
      | (cases e; done)
      | (split at e
         · rename_i h2
           exact absurd h2 (h _ _)
         · cases e)
/-! bodies -/
theorem w_body {n : Nat} {b : SS} {rs : List RV} : WR (bodyF n b rs S) Q = WO (b (entry n rs) S) { N := fun _ S' => Q (.non, .sh) S', R := Q, B := fun _ _ => False, C := fun _ _ => False } := by
  unfold bodyF
  cases b (entry n rs) S <;> rfl
theorem w_init {n c : Nat} {b : SS} {rs : List RV} : WR (initF n c b rs S) Q = WO (b (entryI n c rs) S) { N := fun ρ S' => ∃ p, selfI ρ = some p ∧ Q (.ins p.1 p.2, .own) S', R := fun _ _ => False, B := fun _ _ => False, C := fun _ _ => False } := by
  unfold initF
  cases b (entryI n c rs) S with
  | nx ρ S' =>
    unfold selfI
    rw [o_nx]
    dsimp only
    split
    · rename_i h
      simp only [h, w_ok, Option.some.injEq, exists_eq_left']
    · rename_i h
      refine propext ⟨fun q => q.elim, ?_⟩
      rintro ⟨p, e, _⟩
      first
        | (cases e; done)
        | (split at e
           · rename_i h2
             exact absurd h2 (h _ _)
           · cases e)
  | _ => rfl
end
end DE

set_option maxRecDepth 100000
namespace DE
open DL
theorem lk_sh (d : D) : leakOk (d, .sh) = true := rfl
theorem lk_own (d : D) : leakOk (d, .own) = true := rfl
theorem lk_int {i : Int} {fl : Fl} : leakOk (.int i, fl) = true := by simp [leakOk, box]
theorem lk_str {i : String} {fl : Fl} : leakOk (.str i, fl) = true := by simp [leakOk, box]
theorem lk_tup {i : List D} {fl : Fl} : leakOk (.tup i, fl) = true := by simp [leakOk, box]
theorem lk_bl {i : Bool} {fl : Fl} : leakOk (.bl i, fl) = true := by simp [leakOk, box]
theorem lk_non {fl : Fl} : leakOk (.non, fl) = true := by simp [leakOk, box]
theorem lk_obj {n : Nat} {fl : Fl} : leakOk (.obj n, fl) = true := by simp [leakOk, box]
theorem sz_le {n : Nat} (h : n ≤ 1000000) : (n ≤ PySem.sizeLine) = True := eq_true (Nat.le_trans h (by decide))
theorem sz_lt {n : Nat} (h : n ≤ 1000000) : (n < PySem.sizeLine) = True := eq_true (Nat.lt_of_le_of_lt h (by decide))
theorem v_int {S : Store} {i : Int} : view S (.int i) = .int i := rfl
theorem v_bl {S : Store} {i : Bool} : view S (.bl i) = .bl i := rfl
theorem v_str {S : Store} {i : String} : view S (.str i) = .str i := rfl
theorem v_tup {S : Store} {i : List D} : view S (.tup i) = .tup i := rfl
theorem v_lst {S : Store} {i : List D} : view S (.lst i) = .lst i := rfl
theorem v_non {S : Store} : view S .non = .non := rfl
theorem v_ins {S : Store} {c : Nat} {fs : List (String × D)} : view S (.ins c fs) = .ins c fs := rfl
theorem v_dk {S : Store} {i : List (D × D)} : view S (.dk i) = .dk i := rfl
theorem a_int {i j : Int} {a b : Fl} {S : Store} : oAdd (.int i, a) (.int j, b) S = some (.int (i + j), .sh) := rfl
theorem a_lst {x y : List D} {a b : Fl} {S : Store} : oAdd (.lst x, a) (.lst y, b) S = if x.length + y.length ≤ PySem.sizeLine then some (.lst (x ++ y), .own) else none := rfl
theorem a_tup {x y : List D} {a b : Fl} {S : Store} : oAdd (.tup x, a) (.tup y, b) S = if x.length + y.length ≤ PySem.sizeLine then some (.tup (x ++ y), .sh) else none := rfl
theorem a_str {x y : String} {a b : Fl} {S : Store} : oAdd (.str x, a) (.str y, b) S = if x.length + y.length ≤ PySem.sizeLine then some (.str (x ++ y), .sh) else none := rfl
theorem s_int {i j : Int} {a b : Fl} {S : Store} : oSub (.int i, a) (.int j, b) S = some (.int (i - j), .sh) := rfl
theorem lt_int {i j : Int} {a b : Fl} {S : Store} : oLt (.int i, a) (.int j, b) S = some (.bl (decide (i < j)), .sh) := rfl
theorem le_int {i j : Int} {a b : Fl} {S : Store} : oLe (.int i, a) (.int j, b) S = some (.bl (decide (i ≤ j)), .sh) := rfl
theorem gt_int {i j : Int} {a b : Fl} {S : Store} : oGt (.int i, a) (.int j, b) S = some (.bl (decide (j < i)), .sh) := rfl
theorem ge_int {i j : Int} {a b : Fl} {S : Store} : oGe (.int i, a) (.int j, b) S = some (.bl (decide (j ≤ i)), .sh) := rfl
theorem m_lst {x : List D} {j : Int} {a b : Fl} {S : Store} : oMul (.lst x, a) (.int j, b) S = if -(2 ^ 63) ≤ j ∧ j < 2 ^ 63 ∧ x.length * j.toNat ≤ PySem.sizeLine then some (.lst (List.replicate j.toNat x).flatten, .own) else none := rfl
theorem m_tup {x : List D} {j : Int} {a b : Fl} {S : Store} : oMul (.tup x, a) (.int j, b) S = if 0 ≤ j ∧ j ≤ 100000 ∧ x.length * j.toNat ≤ 1000000 then some (.tup (List.replicate j.toNat x).flatten, .sh) else none := rfl
theorem len_tup {x : List D} {a : Fl} {S : Store} : oLen (.tup x, a) S = some (.int x.length, .sh) := rfl
theorem len_lst {x : List D} {a : Fl} {S : Store} : oLen (.lst x, a) S = some (.int x.length, .sh) := rfl
theorem ix_tup {x : List D} {j : Int} {a b : Fl} {S : Store} : oIdx (.tup x, a) (.int j, b) S = (L2.atI x j).map fun d => (d, .sh) := rfl
theorem ix_lst {x : List D} {j : Int} {a b : Fl} {S : Store} : oIdx (.lst x, a) (.int j, b) S = (L2.atI x j).map fun d => (d, .sh) := rfl
theorem at_0 {x : D} {r : List D} : L2.atI (x :: r) 0 = some x := by simp [L2.atI, L2.ixN]
theorem at_1 {x y : D} {r : List D} : L2.atI (x :: y :: r) 1 = some y := by
  unfold L2.atI L2.ixN
  have : (1 : Int) < (r.length : Int) + 1 + 1 := by omega
  simp [this]
theorem at_2 {x y z : D} {r : List D} : L2.atI (x :: y :: z :: r) 2 = some z := by
  unfold L2.atI L2.ixN
  have : (2 : Int) < (r.length : Int) + 1 + 1 + 1 := by omega
  simp [this]
theorem at_3 {x y z u : D} {r : List D} : L2.atI (x :: y :: z :: u :: r) 3 = some u := by
  unfold L2.atI L2.ixN
  have : (3 : Int) < (r.length : Int) + 1 + 1 + 1 + 1 := by omega
  simp [this]
theorem q_str {x y : String} {a b : Fl} {S : Store} : oEq (.str x, a) (.str y, b) S = some (.bl (x == y), .sh) := by simp [oEq, view, plain, dep, deq]
theorem q_int {x y : Int} {a b : Fl} {S : Store} : oEq (.int x, a) (.int y, b) S = some (.bl (decide (x = y)), .sh) := by by_cases h : x = y <;> simp [oEq, view, plain, dep, deq, h]
theorem nq_int {x y : Int} {a b : Fl} {S : Store} : oNe (.int x, a) (.int y, b) S = some (.bl (decide (x ≠ y)), .sh) := by by_cases h : x = y <;> simp [oNe, view, plain, dep, deq, h]
theorem nq_bl {x y : Bool} {a b : Fl} {S : Store} : oNe (.bl x, a) (.bl y, b) S = some (.bl (x != y), .sh) := by simp [oNe, view, plain, dep, deq, bne]
theorem tupOf_lst {x : List D} {a : Fl} {S : Store} : oTupOf (.lst x, a) S = some (.tup x, .sh) := rfl
theorem tupOf_tup {x : List D} {a : Fl} {S : Store} : oTupOf (.tup x, a) S = some (.tup x, .sh) := rfl
theorem lstOf_lst {x : List D} {a : Fl} {S : Store} : oLstOf (.lst x, a) S = some (.lst x, .own) := rfl
theorem lstOf_tup {x : List D} {a : Fl} {S : Store} : oLstOf (.tup x, a) S = some (.lst x, .own) := rfl
theorem int_int {x : Int} {a : Fl} {S : Store} : oInt (.int x, a) S = some (.int x, .sh) := rfl
theorem int_bl {x : Bool} {a : Fl} {S : Store} : oInt (.bl x, a) S = some (.int (if x then 1 else 0), .sh) := rfl
theorem max_int {i j : Int} {a b : Fl} {S : Store} : oMax2 (.int i, a) (.int j, b) S = some (.int (if j > i then j else i), .sh) := rfl
theorem min_int {i j : Int} {a b : Fl} {S : Store} : oMin2 (.int i, a) (.int j, b) S = some (.int (if j < i then j else i), .sh) := rfl
theorem asB_bl {b : Bool} : asB (.bl b) = some b := rfl
theorem asI_int {b : Int} : asInt (.int b) = some b := rfl
theorem asIns_ins {c : Nat} {fs : List (String × D)} : asIns (.ins c fs) = some (c, fs) := rfl
theorem one_eq {r : RV} : one [r] = some r := rfl
theorem asDk_dk {kvs : List (D × D)} : asDk (.dk kvs) = some kvs := rfl
theorem key_str {x : String} : (dKey (.str x)).isSome = true := rfl
theorem key_int {x : Int} : (dKey (.int x)).isSome = true := rfl
theorem two_eq {r q : RV} : two [r, q] = some (r, q) := rfl
theorem rng1_eq {j : Int} {fl : Fl} : rng1 [(.int j, fl)] = some j := rfl
theorem seqOf_own {ds : List D} : seqOf (.lst ds, .own) = some ds := rfl
theorem seqOf_sh {ds : List D} : seqOf (.lst ds, .sh) = some ds := rfl
theorem seqOf_bor {ds : List D} : seqOf (.lst ds, .bor) = some ds := rfl
theorem seqOf_tup {ds : List D} {fl : Fl} : seqOf (.tup ds, fl) = some ds := rfl
theorem seqOf_str {x : String} {fl : Fl} : seqOf (.str x, fl) = some (signs x) := rfl
theorem asObj_obj {n : Nat} : asObj (.obj n) = some n := rfl
theorem look_sh {ρ : Loc} {i : Nat} {d : D} (h : ρ[i]? = some (some (d, .sh))) : look ρ i = some (d, .sh) := by simp [look, h]
theorem look_lend {ρ : Loc} {i : Nat} {d : D} {fl : Fl} (h : ρ[i]? = some (some (d, lend fl))) : look ρ i = some (d, lend fl) := by cases fl <;> simp [look, h, lend]
theorem look_own {ρ : Loc} {i : Nat} {d : D} (h : ρ[i]? = some (some (d, .own))) : look ρ i = some (d, .mine) := by simp [look, h]
theorem look0 {x : Option RV} {r : Loc} : look (x :: r) 0 = look [x] 0 := by cases x <;> rfl
theorem looks {x : Option RV} {r : Loc} {n : Nat} : look (x :: r) (n + 1) = look r n := by simp [look]
theorem look1_sh {d : D} : look [some (d, .sh)] 0 = some (d, .sh) := rfl
theorem look1_bor {d : D} : look [some (d, .bor)] 0 = some (d, .bor) := rfl
theorem look1_own {d : D} : look [some (d, .own)] 0 = some (d, .mine) := rfl
theorem look1_lend {d : D} {fl : Fl} : look [some (d, lend fl)] 0 = some (d, lend fl) := by cases fl <;> rfl
theorem look2_lend {d : D} {fl : Fl} : look [some (d, lend (lend fl))] 0 = some (d, lend (lend fl)) := by cases fl <;> rfl
theorem lend2 {fl : Fl} : lend (lend fl) = lend fl := by cases fl <;> rfl
theorem lend_ret {fl : Fl} : (if lend fl = Fl.own then Fl.own else Fl.sh) = Fl.sh := by cases fl <;> rfl
theorem lend_sh : lend .sh = .sh := rfl
theorem lend_own : lend .own = .sh := rfl
theorem lend_bor : lend .bor = .bor := rfl
theorem lend_mine : lend .mine = .bor := rfl
theorem en_nil {n : Nat} : entry n [] = List.replicate n none := by simp [entry]
theorem en_cons {n : Nat} {r : RV} {rs : List RV} : entry (n + 1) (r :: rs) = some (r.1, lend r.2) :: entry n rs := by simp [entry]
theorem wi_nil {ρ : Loc} : wipeL ρ [] = ρ := rfl
theorem wi_cons {ρ : Loc} {v : Nat} {vs : List Nat} : wipeL ρ (v :: vs) = (wipeL ρ vs).set v none := rfl
theorem all_nil : ([] : List RV).all leakOk = true := rfl
theorem all_cons {r : RV} {rs : List RV} : (r :: rs).all leakOk = (leakOk r && rs.all leakOk) := rfl
theorem WR.eq {α : Type} {t : R α} {a : α} {S : Store} (h : WR t fun r S' => r = a ∧ S' = S) : t = .ok a S := by
  obtain ⟨r, S', e, rfl, rfl⟩ := h.ex
  exact e
theorem in2 {x p q : String} {a b : Fl} {S : Store} : oIn (.str x, a) (.tup [.str p, .str q], b) S = some (.bl (p == x || q == x), .sh) := by simp [oIn, oInG, view, inSeq, plain, plains, dep, memD, deq]
theorem in3 {x p q r : String} {a b : Fl} {S : Store} : oIn (.str x, a) (.tup [.str p, .str q, .str r], b) S = some (.bl (p == x || (q == x || r == x)), .sh) := by simp [oIn, oInG, view, inSeq, plain, plains, dep, memD, deq, Bool.or_assoc]
theorem lc_map {A : Type} {i : Nat} {f : SE} {ρ : Loc} {S : Store} (e g : A → D) : ∀ (l : List A), (∀ a ∈ l, ∃ fl, f (ρ.set i (some (e a, .sh))) S = .ok (g a, fl) S ∧ leakOk (g a, fl) = true) → lcI (gNm i) sYes f ρ (l.map e) S = .ok (l.map g) S
  | [], _ => rfl
  | a :: l, h => by
    obtain ⟨fl, h1, h2⟩ := h a List.mem_cons_self
    have ih := lc_map e g l fun b hb => h b (List.mem_cons_of_mem _ hb)
    rw [List.map_cons, List.map_cons, lcI]
    simp only [gNm, sYes, R.go, if_true, h1, h2, ih]
theorem intsD_map : ∀ l : List Int, intsD (l.map D.int) = some l
  | [] => rfl
  | i :: l => by simp [intsD, intsD_map l]
theorem blsD_map : ∀ l : List Bool, blsD (l.map D.bl) = some l
  | [] => rfl
  | i :: l => by simp [blsD, blsD_map l]
theorem any_bls {l : List Bool} {a : Fl} {S : Store} : oAny (.lst (l.map D.bl), a) S = some (.bl (l.any id), .sh) := by simp [oAny, blsOf, view, lstOf, blsD_map]
theorem all_bls {l : List Bool} {a : Fl} {S : Store} : oAll (.lst (l.map D.bl), a) S = some (.bl (l.all id), .sh) := by simp [oAll, blsOf, view, lstOf, blsD_map]
theorem max_ints {i : Int} {l : List Int} {a : Fl} {S : Store} : oMaxL (.lst (.int i :: l.map D.int), a) S = some (.int (l.foldl max i), .sh) := by
  have := intsD_map (i :: l)
  simp only [List.map_cons] at this
  simp [oMaxL, intsOf, view, lstOf, this, maxI]
theorem sl42 {x y z u : D} {a : Fl} {S : Store} : oSl (.tup [x, y, z, u], a) (some 2) none S = some (.tup [z, u], .sh) := rfl
theorem sl43 {x y z u : D} {a : Fl} {S : Store} : oSl (.tup [x, y, z, u], a) (some 3) none S = some (.tup [u], .sh) := rfl
theorem sl21 {x y : D} {a : Fl} {S : Store} : oSl (.tup [x, y], a) (some 1) none S = some (.tup [y], .sh) := rfl
theorem sl22 {x y : D} {a : Fl} {S : Store} : oSl (.tup [x, y], a) (some 2) none S = some (.tup [], .sh) := rfl
theorem sl11 {x : D} {a : Fl} {S : Store} : oSl (.tup [x], a) (some 1) none S = some (.tup [], .sh) := rfl
theorem sl4h2 {x y z u : D} {a : Fl} {S : Store} : oSl (.tup [x, y, z, u], a) none (some 2) S = some (.tup [x, y], .sh) := rfl
theorem sl4h3 {x y z u : D} {a : Fl} {S : Store} : oSl (.tup [x, y, z, u], a) none (some 3) S = some (.tup [x, y, z], .sh) := rfl
/-! ### loops by what holds between the turns -/
theorem w_lcP {i : Nat} {f : SE} {ρ : Loc} (P : List D → Store → Prop) {ds : List D} {S : Store} (h0 : P [] S) (hs : ∀ acc d S, ds[acc.length]? = some d → P acc S → WR (f (ρ.set i (some (d, .sh))) S) fun r S' => leakOk r = true ∧ P (acc ++ [r.1]) S') :
    WR (lcI (gNm i) sYes f ρ ds S) fun rs S' => rs.length = ds.length ∧ P rs S' := by
  have go : ∀ (es acc : List D) S, (∀ k, ds[acc.length + k]? = es[k]?) → P acc S → WR (lcI (gNm i) sYes f ρ es S) fun rs S' => rs.length = es.length ∧ P (acc ++ rs) S' := by
    intro es
    induction es with
    | nil => intro acc S _ h; exact ⟨rfl, by simpa using h⟩
    | cons d es ih =>
      intro acc S hk h
      rw [w_lc1]
      refine (hs acc d S (by simpa using hk 0) h).mono ?_
      intro r S1 ⟨l, p⟩
      refine ⟨l, (ih (acc ++ [r.1]) S1 (fun k => ?_) p).mono ?_⟩
      · have := hk (k + 1)
        simp only [List.length_append, List.length_cons, List.length_nil, List.getElem?_cons_succ] at this ⊢
        rw [← this]
        congr 1
        omega
      · intro rs S2 ⟨l2, p2⟩
        exact ⟨by simp [l2], by simpa using p2⟩
  simpa using go ds [] S (fun k => by simp) h0
theorem o_forP {i : Nat} {b : SS} (P : Nat → Loc → Store → Prop) {ds : List D} {ρ : Loc} {S : Store} {k : Ks} (h0 : P 0 ρ S) (hs : ∀ n d ρ S, ds[n]? = some d → P n ρ S → WO (b (ρ.set i (some (d, .sh))) S) { N := P (n + 1), R := k.R, B := k.N, C := P (n + 1) }) (he : ∀ ρ S, P ds.length ρ S → k.N ρ S) :
    WO (forI (gNm i) b ds ρ S) k := by
  have go : ∀ (es : List D) n ρ S, (∀ k, ds[n + k]? = es[k]?) → n + es.length = ds.length → P n ρ S → WO (forI (gNm i) b es ρ S) k := by
    intro es
    induction es with
    | nil => intro n ρ S _ hl h; exact he ρ S (by simp at hl; exact hl ▸ h)
    | cons d es ih =>
      intro n ρ S hk hl h
      rw [o_forN]
      have := hs n d ρ S (by simpa using hk 0) h
      have nx : ∀ ρ2 S2, P (n + 1) ρ2 S2 → WO (forI (gNm i) b es ρ2 S2) k := fun ρ2 S2 p => ih (n + 1) ρ2 S2 (fun k => by
        have := hk (k + 1)
        simp only [List.getElem?_cons_succ] at this
        rw [← this]
        congr 1
        omega) (by simp at hl; omega) p
      cases e : b (ρ.set i (some (d, .sh))) S with
      | nx ρ2 S2 => rw [e] at this; exact nx ρ2 S2 this
      | ct ρ2 S2 => rw [e] at this; exact nx ρ2 S2 this
      | rt r S2 => rw [e] at this; exact this
      | bk ρ2 S2 => rw [e] at this; exact this
      | ex x ρ2 S2 => rw [e] at this; exact this
      | bad => rw [e] at this; exact this
  exact go ds 0 ρ S (fun k => by simp) (by simp) h0
theorem en0 {n : Nat} {rs : List RV} {c : Nat} : entryI (n + 1) c rs = some (.ins c [], .own) :: entry n rs := by
  unfold entryI entry
  rw [Nat.add_sub_add_right]
theorem self_eq {c : Nat} {fs : List (String × D)} {r : Loc} : selfI (some (.ins c fs, .own) :: r) = some (c, fs) := rfl
theorem put_held {d : D} : putN "held" d [] = [("held", d)] := rfl
end DE

set_option maxRecDepth 100000
set_option maxHeartbeats 2000000
/-! repr of plain values is a text -/
namespace DE
open DL PySem
def VS (x : Str) : Prop := ∀ c ∈ x.cps.toList, Nat.isValidChar c
theorem vs_s2 (y : String) : VS (s2 y) := by
  intro c hc
  rw [s2_cps] at hc
  simp only [List.mem_map] at hc
  obtain ⟨d, _, rfl⟩ := hc
  exact d.valid
theorem vs_ex {x : Str} (h : VS x) : ∃ y, s2 y = x := by
  refine ⟨String.ofList (x.cps.toList.map Char.ofNat), ?_⟩
  have : (s2 (String.ofList (x.cps.toList.map Char.ofNat))).cps = x.cps := by
    rw [s2_cps, String.toList_ofList, List.map_map]
    have e : x.cps.toList.map (Char.toNat ∘ Char.ofNat) = x.cps.toList := by
      conv => rhs; rw [← List.map_id x.cps.toList]
      refine List.map_congr_left fun c hc => ?_
      have hv := h c hc
      simp only [Function.comp, id]
      unfold Char.ofNat
      rw [dif_pos hv]
      rfl
    rw [e]
  cases x with
  | mk c => 
    cases hs : s2 (String.ofList (c.toList.map Char.ofNat)) with
    | mk d => rw [hs] at this; simp only at this; rw [this]
theorem vs_app {x y : Str} (h : VS x) (k : VS y) : VS (x ++ y) := by
  intro c hc
  rw [show (x ++ y).cps = x.cps ++ y.cps from rfl] at hc
  simp only [Array.toList_append, List.mem_append] at hc
  exact hc.elim (h c) (k c)
theorem vs_join {s : Str} (hs : VS s) : ∀ {ts : List Str}, (∀ t ∈ ts, VS t) → VS (Str.join s ts)
  | [], _ => by intro c hc; cases hc
  | [t], h => h t List.mem_cons_self
  | t :: u :: r, h => by
    show VS (t ++ s ++ Str.join s (u :: r))
    exact vs_app (vs_app (h t List.mem_cons_self) hs) (vs_join hs fun v hv => h v (List.mem_cons_of_mem _ hv))
theorem vs_from : ∀ {ts : List Str} {k : Nat} {acc : Str}, VS acc → (∀ t ∈ ts, VS t) → VS (textFrom k acc ts)
  | [], _, _, h, _ => h
  | t :: ts, k, acc, h, ht => by
    show VS (textFrom (k + 1) (acc ++ (if k > 0 then ", " else "" : String) ++ t) ts)
    refine vs_from (vs_app (vs_app h ?_) (ht t List.mem_cons_self)) fun v hv => ht v (List.mem_cons_of_mem _ hv)
    exact vs_s2 _
theorem valid_small {c : Nat} (h : c < 55296) : Nat.isValidChar c := .inl h
theorem vs_char {q c : Nat} (hc : Nat.isValidChar c) : ∀ d ∈ Builtin.Str.reprChar q c, Nat.isValidChar d := by
  intro d hd
  have hex : ∀ w, d ∈ (List.replicate (w - ((Nat.toDigits 16 c).map Char.toNat).length) 48 ++ (Nat.toDigits 16 c).map Char.toNat) → Nat.isValidChar d := by
    intro w h
    rcases List.mem_append.mp h with h | h
    · rw [List.eq_of_mem_replicate h]; exact valid_small (by decide)
    · obtain ⟨e, _, rfl⟩ := List.mem_map.mp h
      exact e.valid
  unfold Builtin.Str.reprChar at hd
  dsimp only at hd
  repeat' split at hd
  all_goals first
    | (simp only [List.mem_cons, List.not_mem_nil, or_false] at hd; rcases hd with rfl | rfl <;> first | exact hc | exact valid_small (by decide))
    | (simp only [List.mem_cons, List.not_mem_nil, or_false] at hd; subst hd; exact hc)
    | (simp only [List.cons_append, List.nil_append, List.mem_cons] at hd; rcases hd with rfl | rfl | hd <;> first | exact valid_small (by decide) | exact hex _ hd)
theorem vs_fold (q : Nat) : ∀ (l : List Nat) (acc : Array Nat), (∀ c ∈ l, Nat.isValidChar c) → (∀ c ∈ acc.toList, Nat.isValidChar c) → ∀ c ∈ (l.foldl (fun out c => out ++ (Builtin.Str.reprChar q c).toArray) acc).toList, Nat.isValidChar c
  | [], acc, _, h => h
  | c :: r, acc, hl, h => by
    simp only [List.foldl_cons]
    refine vs_fold q r _ (fun d hd => hl d (List.mem_cons_of_mem _ hd)) fun d hd => ?_
    simp only [Array.toList_append, List.mem_append] at hd
    exact hd.elim (h d) (vs_char (hl c List.mem_cons_self) d)
theorem vs_repr {x : Str} (h : VS x) : VS (reprText x) := by
  have hq : Nat.isValidChar (reprQuote x) := by unfold reprQuote; split <;> exact valid_small (by decide)
  intro c hc
  unfold reprText at hc
  simp only [Array.toList_push, List.mem_append, List.mem_singleton] at hc
  rcases hc with hc | rfl
  · rw [← Array.foldl_toList] at hc
    exact vs_fold _ _ _ h (fun d hd => by simp at hd; subst hd; exact hq) c hc
  · exact hq
theorem vs_list {ts : List Str} (h : ∀ t ∈ ts, VS t) : VS (listText ts) := vs_app (vs_from (vs_s2 "[") h) (vs_s2 "]")
theorem vs_tuple {ts : List Str} (h : ∀ t ∈ ts, VS t) : VS (tupleText ts) := vs_app (vs_app (vs_s2 "(") (vs_join (vs_s2 ", ") h)) (by split <;> exact vs_s2 _)
mutual
theorem vs_shown : ∀ d : D, plain d = true → VS (py d).shown
  | .non, _ => by simp only [py, PyData.shown]; exact vs_s2 "None"
  | .bl b, _ => by simp only [py, PyData.shown]; cases b <;> exact vs_s2 _
  | .int i, _ => by simp only [py, PyData.shown]; exact vs_s2 _
  | .str x, _ => by simp only [py, PyData.shown]; exact vs_repr (vs_s2 x)
  | .tup ds, h => by simp only [py, PyData.shown]; exact vs_tuple (vs_all ds (by simpa [DL.plain] using h))
  | .lst ds, h => by simp only [py, PyData.shown]; exact vs_list (vs_all ds (by simpa [DL.plain] using h))
  | .frl _, h => by simp [DL.plain] at h
  | .dk _, h => by simp [DL.plain] at h
  | .dt _, h => by simp [DL.plain] at h
  | .ins _ _, h => by simp [DL.plain] at h
  | .exc _ _, h => by simp [DL.plain] at h
  | .obj _, h => by simp [DL.plain] at h
theorem vs_all : ∀ ds : List D, plains ds = true → ∀ t ∈ PyData.shownAll (pys ds), VS t
  | [], _ => fun _ h => by simp [pys, PyData.shownAll] at h
  | d :: ds, h => by
    simp only [plains, Bool.and_eq_true] at h
    intro t ht
    simp only [pys, PyData.shownAll, List.mem_cons] at ht
    rcases ht with rfl | ht
    · exact vs_shown d h.1
    · exact vs_all ds h.2 t ht
end
/-! how long -/
mutual
def lenB : D → Nat
  | .non => 4
  | .bl _ => 5
  | .int _ => 1921
  | .str x => 10 * x.length + 2
  | .tup ds => 3 + lensB ds
  | .lst ds => 2 + lensB ds
  | _ => 0
def lensB : List D → Nat
  | [] => 0
  | d :: ds => lenB d + 2 + lensB ds
end
theorem from_len : ∀ (ts : List Str) (k : Nat) (acc : Str), (textFrom k acc ts).length ≤ acc.length + (ts.map fun t => t.length + 2).sum
  | [], k, acc => by simp [textFrom]
  | t :: r, k, acc => by
    have ih := from_len r (k + 1) (acc ++ (if k > 0 then ", " else "" : String) ++ t)
    have e : (acc ++ (if k > 0 then ", " else "" : String) ++ t).length ≤ acc.length + 2 + t.length := by
      rw [strLen_append, strLen_append]
      have : (Str.ofString (if k > 0 then ", " else "" : String)).length ≤ 2 := by split <;> decide
      omega
    simp only [textFrom, List.map_cons, List.sum_cons]
    omega
theorem join_len : ∀ (ts : List Str), (Str.join ", " ts).length ≤ (ts.map fun t => t.length + 2).sum
  | [] => Nat.zero_le _
  | [t] => by show t.length ≤ _; simp
  | t :: u :: r => by
    have ih := join_len (u :: r)
    show (t ++ ", " ++ Str.join ", " (u :: r)).length ≤ _
    rw [strLen_append, strLen_append]
    have : (", " : Str).length = 2 := rfl
    simp only [List.map_cons, List.sum_cons] at ih ⊢
    omega
theorem valid_lt {c : Nat} (h : Nat.isValidChar c) : c < 16 ^ 8 := by
  rcases h with h | h <;> omega
mutual
theorem len_shown : ∀ d : D, plain d = true → (py d).showable = true → (py d).shown.length ≤ lenB d
  | .non, _, _ => by simp only [py, PyData.shown, lenB]; decide
  | .bl b, _, _ => by simp only [py, PyData.shown, lenB]; cases b <;> decide
  | .int i, _, h => by simp only [py, PyData.shown, lenB]; exact PyProof.Rows.int_text_len_1921 (by simpa [py, PyData.showable] using h)
  | .str x, _, _ => by
    simp only [py, PyData.shown, lenB]
    have := StrLaws.reprText_len (s2 x) fun c hc => valid_lt (vs_s2 x c hc)
    rw [s2_len] at this
    exact this
  | .tup ds, h, hs => by
    have := lens_shown ds (by simpa [DL.plain] using h) (by simpa [py, PyData.showable] using hs)
    have := join_len (PyData.shownAll (pys ds))
    simp only [py, PyData.shown, lenB]
    unfold tupleText
    rw [strLen_append, strLen_append]
    have h1 : ("(" : Str).length = 1 := rfl
    have h2 : (Str.ofString (if (PyData.shownAll (pys ds)).length == 1 then ",)" else ")" : String)).length ≤ 2 := by split <;> decide
    omega
  | .lst ds, h, hs => by
    have := lens_shown ds (by simpa [DL.plain] using h) (by simpa [py, PyData.showable] using hs)
    have := from_len (PyData.shownAll (pys ds)) 0 "["
    simp only [py, PyData.shown, lenB]
    unfold listText
    rw [strLen_append]
    have h1 : ("[" : Str).length = 1 := rfl
    have h2 : ("]" : Str).length = 1 := rfl
    omega
  | .frl _, h, _ => by simp [DL.plain] at h
  | .dk _, h, _ => by simp [DL.plain] at h
  | .dt _, h, _ => by simp [DL.plain] at h
  | .ins _ _, h, _ => by simp [DL.plain] at h
  | .exc _ _, h, _ => by simp [DL.plain] at h
  | .obj _, h, _ => by simp [DL.plain] at h
theorem lens_shown : ∀ ds : List D, plains ds = true → PyData.showableAll (pys ds) = true → ((PyData.shownAll (pys ds)).map fun t => t.length + 2).sum ≤ lensB ds
  | [], _, _ => by simp [pys, PyData.shownAll, lensB]
  | d :: ds, h, hs => by
    simp only [plains, Bool.and_eq_true] at h
    simp only [pys, PyData.showableAll, Bool.and_eq_true] at hs
    have a := len_shown d h.1 hs.1
    have b := lens_shown ds h.2 hs.2
    simp only [pys, PyData.shownAll, lensB, List.map_cons, List.sum_cons]
    omega
end
theorem repr_ok {d : D} (h : plain d = true) (hs : (py d).showable = true) (hl : lenB d ≤ 1000000) (hd : dep d ≤ 100) : ∃ y : String, s2 y = (py d).shown ∧ ∀ fl S, oRepr (d, fl) S = some (.str y, .sh) := by
  obtain ⟨y, hy⟩ := vs_ex (vs_shown d h)
  refine ⟨y, hy, fun fl S => ?_⟩
  have v : view S d = d := by cases d <;> first | rfl | (simp [DL.plain] at h)
  have := len_shown d h hs
  have sz : (py d).shown.length ≤ sizeLine := Nat.le_trans (Nat.le_trans this hl) (by decide)
  unfold oRepr
  rw [v, if_pos ⟨h, hs, sz, hd⟩, ← hy, strOf_s2]
  rfl
end DE

set_option maxRecDepth 100000
set_option maxHeartbeats 2000000
namespace K25
open DL DE
/-! ### told programs as values -/
mutual
theorem plain_emb : ∀ t : PT, plain (emb t) = true
  | .do_ _ | .ret _ | .go _ | .end_ => by simp [emb, plain, plains]
  | .if_ _ y z => by simp [emb, plain, plains, plain_emb y, plain_emb z]
  | .while_ _ _ b => by simp [emb, plain, plains, plain_emb b]
  | .forever b => by simp [emb, plain, plains, plain_emb b]
  | .row l => by simp [emb, plain, plains, plains_embs l]
theorem plains_embs : ∀ l : List PT, plains (embs l) = true
  | [] => rfl
  | t :: r => by simp [embs, plains, plain_emb t, plains_embs r]
end
mutual
theorem dep_emb : ∀ t : PT, good t = true → dep (emb t) ≤ 3 * deep t ∧ (isRow t = false → dep (emb t) + 2 ≤ 3 * deep t)
  | .do_ _, _ | .ret _, _ | .go _, _ | .end_, _ => by simp [emb, dep, deps, deep]
  | .if_ _ y z, h => by
    simp only [good, Bool.and_eq_true] at h
    have a := (dep_emb y h.1.2).1
    have b := (dep_emb z h.2).1
    simp only [emb, dep, deps, deep, isRow, forall_const]
    omega
  | .while_ _ _ b, h => by
    simp only [good, Bool.and_eq_true] at h
    have a := (dep_emb b h.2).1
    simp only [emb, dep, deps, deep, isRow, forall_const]
    omega
  | .forever b, h => by
    simp only [good, Bool.and_eq_true] at h
    have a := (dep_emb b h.2).1
    simp only [emb, dep, deps, deep, isRow, forall_const]
    omega
  | .row l, h => by
    simp only [good, Bool.and_eq_true] at h
    have a := deps_embs l h.2
    simp only [emb, dep, deps, deep, isRow]
    refine ⟨by omega, fun q => by cases q⟩
theorem deps_embs : ∀ l : List PT, goods l = true → deps (embs l) + 2 ≤ 3 * max 1 (deepL l)
  | [], _ => by simp [embs, deps, deepL]
  | t :: r, h => by
    simp only [goods, Bool.and_eq_true, Bool.not_eq_true'] at h
    have a := (dep_emb t h.1.2).2 h.1.1
    have b := deps_embs r h.2
    simp only [embs, deps, deepL]
    omega
end
theorem deq_nil (t : PT) : deq (emb t) (.tup [.str "row", .tup []]) = isNil t := by
  cases t <;> simp [emb, deq, deqs, isNil]
  rename_i l
  cases l <;> simp [embs, deqs]
theorem ne_nil {t : PT} {a b : Fl} {S : Store} (h : good t = true) (hd : deep t ≤ 60) : oNe (emb t, a) (.tup [.str "row", .tup []], b) S = some (.bl (!isNil t), .sh) := by
  have v : view S (emb t) = emb t := by cases t <;> rfl
  have d := (dep_emb t h).1
  unfold oNe
  rw [v]
  simp [plain_emb, view, plain, plains, deq_nil]
  omega
theorem eq_nil {t : PT} {a b : Fl} {S : Store} (h : good t = true) (hd : deep t ≤ 60) : oEq (emb t, a) (.tup [.str "row", .tup []], b) S = some (.bl (isNil t), .sh) := by
  have v : view S (emb t) = emb t := by cases t <;> rfl
  have d := (dep_emb t h).1
  unfold oEq
  rw [v]
  simp [plain_emb, view, plain, plains, deq_nil]
  omega
end K25

set_option maxRecDepth 100000
set_option maxHeartbeats 2000000
namespace K25
open DL DE
local macro_rules | `(tactic| walk_at "ev") => `(tactic| simp only [↓w_look, ↓w_opt_some, ↓w_cst, ↓w_nil, ↓w_cons, ↓w_tup, ↓w_lst, ↓w_T, ↓w_if, ↓DE.w_and, ↓DE.w_or, ↓w_not, ↓w_tand, ↓w_tor, ↓w_tnot, ↓w_op2, ↓w_op1, ↓w_opN, ↓w_b1, ↓w_b2, ↓w_chain, ↓w_call, ↓w_make, ↓w_prop, ↓w_own2, ↓w_fld, ↓w_lenO, ↓w_isi, ↓w_new, ↓w_noPart, ↓w_part, ↓w_sl, ↓w_seqI, ↓w_rng1, ↓w_lc, ↓w_lc0, ↓w_lc1, ↓w_dict0, ↓w_dict1, ↓w_dict, ↓w_get2, ↓w_join, ↓o_skip, ↓o_seq, ↓o_drop, ↓o_ret, ↓o_retN, ↓o_set, ↓o_own, ↓o_if, ↓o_asg, ↓o_par, ↓o_for, ↓o_for0, ↓o_forN, ↓o_put, ↓o_fldS, ↓w_body, ↓w_init, ↓w_ok, ↓o_nx,
  lk_sh, lk_own, all_nil, all_cons, v_int, v_bl, v_str, v_tup, v_lst, v_non, v_ins, v_dk, a_int, a_lst, a_tup, a_str, s_int, lt_int, le_int, gt_int, ge_int, m_lst, m_tup, len_tup, len_lst, ix_tup, ix_lst, at_0, at_1, at_2, at_3, q_str, q_int, nq_int, nq_bl, tupOf_lst, tupOf_tup, lstOf_lst, lstOf_tup, int_int, int_bl, max_int, min_int, asB_bl, asI_int, asIns_ins, two_eq, rng1_eq, seqOf_own, seqOf_sh, seqOf_bor, seqOf_tup, seqOf_str, asObj_obj,
  look0, looks, look1_sh, look1_bor, look1_own, look1_lend, lend2, lend_sh, lend_own, lend_bor, lend_mine, en_nil, en_cons, wi_nil, wi_cons, List.set_cons_zero, List.set_cons_succ, List.replicate_zero, List.replicate_succ, List.append_nil, List.nil_append, List.cons_append, List.map_cons, List.map_nil, List.length_cons, List.length_nil, Nat.reduceAdd, Nat.reduceLeDiff, sz_le, sz_lt, Option.map_some, Option.map_none, Option.some.injEq, exists_eq_left', Bool.and_true, Bool.true_and, Bool.not_true, Bool.not_false, and_self, true_and, and_true, if_true, if_false, decide_eq_true_eq, Bool.false_eq_true, reduceCtorEq, ite_true, ite_false])
/-! ### specs as what is wanted behind -/
def DrawW (F : SF) : Prop := ∀ (S X : Store) (T size : Int) (fl : Fl), St S X T → T < lim → 0 < size → size < 2 ^ 40 → WR (F [(.obj 1, lend fl), (.int size, .sh)] S) fun r S' => ∃ i, r = (.int i, .sh) ∧ 0 ≤ i ∧ i < size ∧ St S' X (T + 1)
def PickW (F : SF) : Prop := ∀ (S X : Store) (T : Int) (fl f2 : Fl) (d : D) (its : List D), St S X T → T < lim → itemsD d = some its → 0 < its.length → its.length ≤ 1000000 → WR (F [(.obj 1, lend fl), (d, f2)] S) fun r S' => ∃ a, r = (a, .sh) ∧ a ∈ its ∧ St S' X (T + 1)
def LastW (F : SF) : Prop := ∀ (S Xp : Store) (T left : Int) (names : List String) (fl f2 : Fl), KitOk names → St S (Xp ++ [kitD names left]) T → T + 3 < lim →
  WR (F [(.obj 1, lend fl), (.obj (2 + Xp.length), lend f2)] S) fun r S' => ∃ t, r = (emb t, .sh) ∧ Leaf t ∧ St S' (Xp ++ [kitD names left]) (T + 3)
theorem DrawW.of {F : SF} (h : DrawOk F) : DrawW F := fun S X T size fl hS hT h0 h1 => by
  obtain ⟨i, S', a, b, c, e⟩ := h S X T size (lend fl) (lend_any fl) hS hT h0 h1
  exact .of e ⟨i, rfl, a, b, c⟩
theorem PickW.of {F : SF} (h : PickOk F) : PickW F := fun S X T fl f2 d its hS hT hi h0 h1 => by
  obtain ⟨i, S', a, b, e⟩ := h S X T (lend fl) f2 d its (lend_any fl) hS hT hi h0 h1
  exact .of e ⟨i, rfl, a, b⟩
theorem LastW.of {F : SF} (h : LastOk F) : LastW F := fun S Xp T left names fl f2 hk hS hT => by
  obtain ⟨i, S', a, b, e⟩ := h S Xp T left names (lend fl) (lend f2) (lend_any fl) (lend_any f2) hk hS hT
  exact .of e ⟨i, rfl, a, b⟩
section
variable {S Xp : Store} {names : List String} {left T : Int} (h : St S (Xp ++ [kitD names left]) T)
include h
theorem kitN {a b : Fl} : oDGet (.obj (2 + Xp.length), a) (.str "names", b) S = some (.lst (names.map D.str), .sh) := by
  have hv : view S (.obj (2 + Xp.length)) = kitD names left := by
    show S.getD (2 + Xp.length) _ = _
    rw [List.getD_eq_getElem?_getD, kit_at h]; rfl
  simp only [oDGet, hv, kitD]; simp [dKey, kn]
theorem kitL {a b : Fl} : oDGet (.obj (2 + Xp.length), a) (.str "left", b) S = some (.int left, .sh) := by
  have hv : view S (.obj (2 + Xp.length)) = kitD names left := by
    show S.getD (2 + Xp.length) _ = _
    rw [List.getD_eq_getElem?_getD, kit_at h]; rfl
  simp only [oDGet, hv, kitD]; simp [dKey, kl]
theorem kitAt : (S[2 + Xp.length]?).bind asDk = some [(D.str "names", .lst (names.map D.str)), (.str "left", .int left), (.str "gos", .lst [.str "m"])] := by
  rw [kit_at h]; rfl
end
theorem kitSet {names : List String} {left l' : Int} : setK [(D.str "names", .lst (names.map D.str)), (.str "left", .int left), (.str "gos", .lst [.str "m"])] (.str "left") (.int l') = [(D.str "names", .lst (names.map D.str)), (.str "left", .int l'), (.str "gos", .lst [.str "m"])] := by simp [setK, deq]
def Bm : Nat → Int
  | 0 => 21
  | m + 1 => 1 + 4 * (5 + 2 * Bm m)
def Cm : Nat → Int
  | 0 => 5
  | m + 1 => 5 + 2 * Bm m
theorem Bm_pos : ∀ m, 21 ≤ Bm m
  | 0 => by decide
  | m + 1 => by have := Bm_pos m; simp only [Bm]; omega
theorem Bm_Cm (m : Nat) : Bm m = 1 + 4 * Cm m := by cases m <;> rfl
def p0 (l : Int) : Int := max l 0
/-- so many turns are spared -/
def ToldW (F : SF) (m : Nat) : Prop := ∀ (S Xp : Store) (T left deep_ : Int) (names : List String) (fl f1 f2 : Fl), KitOk names → St S (Xp ++ [kitD names left]) T → T + Bm m < lim → deep_ ≤ m + 1 → m ≤ 20 →
  WR (F [(.obj 1, lend fl), (.int deep_, f1), (.obj (2 + Xp.length), lend f2)] S) fun r S' => ∃ t l', r = (emb t, .sh) ∧ good t = true ∧ (deep t : Int) ≤ m + 1 ∧ l' ≤ left ∧ (units t : Int) + 10 * p0 l' ≤ 5 + 10 * p0 left ∧ St S' (Xp ++ [kitD names l']) (T + Bm m)
def PartW (F : SF) (m : Nat) : Prop := ∀ (S Xp : Store) (T left deep_ : Int) (names : List String) (fl f1 f2 : Fl), KitOk names → St S (Xp ++ [kitD names left]) T → T + Cm m < lim → deep_ ≤ m + 1 → m ≤ 20 →
  WR (F [(.obj 1, lend fl), (.int deep_, f1), (.obj (2 + Xp.length), lend f2)] S) fun r S' => ∃ t l', r = (emb t, .sh) ∧ good t = true ∧ isRow t = false ∧ (deep t : Int) ≤ m + 1 ∧ l' ≤ left ∧ (units t : Int) + 10 * p0 l' ≤ 1 + 10 * p0 left ∧ St S' (Xp ++ [kitD names l']) (T + Cm m)
theorem part_sem {E : Sem} {m : Nat} (hd : DrawW E.L_draw) (hp : PickW E.L_pick) (hl : LastW E.L_last) (ht : ∀ n, n + 1 = m → ToldW E.L_told n) : PartW (step E).L_part m := by
  intro S Xp T left deep_ names fl f1 f2 hk hS hT hdeep hm
  show WR (bodyF 7 (v_L_part E) _ _) _
  unfold v_L_part
  walk_at "ev"
  rw [kitL hS]
  walk_at "ev"
  rw [kitAt hS]
  walk_at "ev"
  rw [kitSet]
  have hS1 := kit_put (l' := left - 1) hS
  rw [show D.dk [(D.str "names", .lst (names.map D.str)), (.str "left", .int (left - 1)), (.str "gos", .lst [.str "m"])] = kitD names (left - 1) from rfl]
  generalize S.set (2 + Xp.length) _ = S1 at hS1 ⊢
  unfold lim at hT
  have hk' := hk
  obtain ⟨k0, k1, k2⟩ := hk'
  have hp0 : p0 (left - 1) ≤ p0 left := by unfold p0; omega
  have hC : 5 ≤ Cm m := by cases m <;> simp only [Cm] <;> (try (rename_i q; have := Bm_pos q)) <;> omega
  refine ⟨rfl, (hd S1 _ T 10 fl hS1 (by unfold lim; omega) (by decide) (by decide)).mono ?_⟩
  rintro _ S2 ⟨w, rfl, w0, w1, hS2⟩
  rw [kitN hS2]
  walk_at "ev"
  refine (hp S2 _ (T + 1) fl .sh _ _ hS2 (by unfold lim; omega) rfl (by simpa using k0) (by simp; omega)).mono ?_
  rintro _ S3 ⟨a, rfl, ha, hS3⟩
  obtain ⟨x, hx, rfl⟩ := List.mem_map.mp ha
  have nx := k2 x hx
  walk_at "ev"
  have leafC : ∀ {S4 : Store} {t : PT}, Leaf t → St S4 (Xp ++ [kitD names (left - 1)]) (T + 1 + 1 + 3) → ∃ t' l', (emb t, (Fl.sh : Fl)) = (emb t', Fl.sh) ∧ good t' = true ∧ isRow t' = false ∧ (deep t' : Int) ≤ m + 1 ∧ l' ≤ left ∧ (units t' : Int) + 10 * p0 l' ≤ 1 + 10 * p0 left ∧ St S4 (Xp ++ [kitD names l']) (T + Cm m) := by
    intro S4 t ⟨l1, l2, l3, l4⟩ h
    exact ⟨t, left - 1, rfl, l1, l2, by omega, by omega, by omega, h.more (by omega)⟩
  have leaf : WR (E.L_last [(.obj 1, lend fl), (.obj (2 + Xp.length), lend f2)] S3) fun r S' => leakOk r = true ∧ ∃ t l', (r.1, if r.2 = Fl.own then Fl.own else Fl.sh) = (emb t, .sh) ∧ good t = true ∧ isRow t = false ∧ (deep t : Int) ≤ m + 1 ∧ l' ≤ left ∧ (units t : Int) + 10 * p0 l' ≤ 1 + 10 * p0 left ∧ St S' (Xp ++ [kitD names l']) (T + Cm m) := by
    refine (hl S3 Xp (T + 1 + 1) (left - 1) names fl f2 hk hS3 (by unfold lim; omega)).mono ?_
    rintro _ S4 ⟨t, rfl, lf, h⟩
    exact ⟨rfl, leafC lf h⟩
  split
  · exact leaf
  rename_i hd2
  rw [kitL hS3]
  walk_at "ev"
  split
  · exact leaf
  rename_i hl1
  split
  · exact leaf
  rename_i hw3
  obtain ⟨n, rfl⟩ : ∃ n, m = n + 1 := ⟨m - 1, by omega⟩
  have htn := ht n rfl
  have hB := Bm_pos n
  have eC : Cm (n + 1) = 5 + 2 * Bm n := rfl
  have p1 : p0 left = p0 (left - 1) + 1 := by unfold p0; omega
  split
  · refine (htn S3 Xp (T + 1 + 1) (left - 1) (deep_ - 1) names fl .sh f2 hk hS3 (by unfold lim; omega) (by omega) (by omega)).mono ?_
    rintro _ S4 ⟨t1, l1, rfl, g1, d1, b1, u1, hS4⟩
    walk_at "ev"
    refine (htn S4 Xp _ l1 (deep_ - 1) names fl .sh f2 hk hS4 (by unfold lim; omega) (by omega) (by omega)).mono ?_
    rintro _ S5 ⟨t2, l2, rfl, g2, d2, b2, u2, hS5⟩
    walk_at "ev"
    refine ⟨.if_ x t1 t2, l2, rfl, by simp [good, nx, g1, g2], rfl, ?_, by omega, ?_, hS5.more (by omega)⟩
    · simp only [deep]; omega
    · simp only [units]; omega
  · refine (htn S3 Xp (T + 1 + 1) (left - 1) (deep_ - 1) names fl .sh f2 hk hS3 (by unfold lim; omega) (by omega) (by omega)).mono ?_
    rintro _ S4 ⟨t1, l1, rfl, g1, d1, b1, u1, hS4⟩
    walk_at "ev"
    split
    · refine (hd S4 _ _ 3 fl hS4 (by unfold lim; omega) (by decide) (by decide)).mono ?_
      rintro _ S5 ⟨c, rfl, c0, c1, hS5⟩
      walk_at "ev"
      refine ⟨.while_ x (decide (0 < c)) t1, l1, rfl, by simp [good, nx, g1], rfl, ?_, by omega, ?_, hS5.more (by omega)⟩
      · simp only [deep]; omega
      · simp only [units]; omega
    · rw [ne_nil g1 (by omega)]
      walk_at "ev"
      by_cases hn : isNil t1 = true
      · simp only [hn]
        walk_at "ev"
        refine (hl S4 Xp _ l1 names fl f2 hk hS4 (by unfold lim; omega)).mono ?_
        rintro _ S5 ⟨t2, rfl, ⟨g2, r2, u2, d2⟩, hS5⟩
        walk_at "ev"
        refine ⟨.forever t2, l1, rfl, ?_, rfl, ?_, by omega, ?_, hS5.more (by omega)⟩
        · cases t2 <;> simp_all [good, isNil, isRow]
        · simp only [deep]; omega
        · simp only [units]; omega
      · have hn' : isNil t1 = false := by simpa using hn
        simp only [hn']
        walk_at "ev"
        refine ⟨.forever t1, l1, rfl, by simp [good, hn', g1], rfl, ?_, by omega, ?_, hS4.more (by omega)⟩
        · simp only [deep]; omega
        · simp only [units]; omega
end K25

set_option maxRecDepth 100000
set_option maxHeartbeats 2000000
namespace K25
open DL DE
local macro_rules | `(tactic| walk_at "ev") => `(tactic| simp only [↓w_look, ↓w_opt_some, ↓w_cst, ↓w_nil, ↓w_cons, ↓w_tup, ↓w_lst, ↓w_T, ↓w_if, ↓DE.w_and, ↓DE.w_or, ↓w_not, ↓w_tand, ↓w_tor, ↓w_tnot, ↓w_op2, ↓w_op1, ↓w_opN, ↓w_b1, ↓w_b2, ↓w_chain, ↓w_call, ↓w_make, ↓w_prop, ↓w_own2, ↓w_fld, ↓w_lenO, ↓w_isi, ↓w_new, ↓w_noPart, ↓w_part, ↓w_sl, ↓w_seqI, ↓w_rng1, ↓w_lc, ↓w_lc0, ↓w_lc1, ↓w_dict0, ↓w_dict1, ↓w_dict, ↓w_get2, ↓w_join, ↓o_skip, ↓o_seq, ↓o_drop, ↓o_ret, ↓o_retN, ↓o_set, ↓o_own, ↓o_if, ↓o_asg, ↓o_par, ↓o_for, ↓o_for0, ↓o_forN, ↓o_put, ↓o_fldS, ↓w_body, ↓w_init, ↓w_ok, ↓o_nx,
  lk_sh, lk_own, all_nil, all_cons, v_int, v_bl, v_str, v_tup, v_lst, v_non, v_ins, v_dk, a_int, a_lst, a_tup, a_str, s_int, lt_int, le_int, gt_int, ge_int, m_lst, m_tup, len_tup, len_lst, ix_tup, ix_lst, at_0, at_1, at_2, at_3, q_str, q_int, nq_int, nq_bl, tupOf_lst, tupOf_tup, lstOf_lst, lstOf_tup, int_int, int_bl, max_int, min_int, asB_bl, asI_int, asIns_ins, two_eq, rng1_eq, seqOf_own, seqOf_sh, seqOf_bor, seqOf_tup, seqOf_str, asObj_obj,
  look0, looks, look1_sh, look1_bor, look1_own, look1_lend, lend2, lend_sh, lend_own, lend_bor, lend_mine, en_nil, en_cons, wi_nil, wi_cons, List.set_cons_zero, List.set_cons_succ, List.replicate_zero, List.replicate_succ, List.append_nil, List.nil_append, List.cons_append, List.map_cons, List.map_nil, List.length_cons, List.length_nil, Nat.reduceAdd, Nat.reduceLeDiff, sz_le, sz_lt, Option.map_some, Option.map_none, Option.some.injEq, exists_eq_left', Bool.and_true, Bool.true_and, Bool.not_true, Bool.not_false, and_self, true_and, and_true, if_true, if_false, decide_eq_true_eq, Bool.false_eq_true, reduceCtorEq, ite_true, ite_false])
theorem told_sem {E : Sem} {m : Nat} (hp : PickW E.L_pick) (ht : PartW E.L_part m) : ToldW (step E).L_told m := by
  intro S Xp T left deep_ names fl f1 f2 hk hS hT hdeep hm
  show WR (bodyF 6 (v_L_told E) _ _) _
  unfold v_L_told
  walk_at "ev"
  have eB := Bm_Cm m
  have hC : 5 ≤ Cm m := by cases m <;> simp only [Cm] <;> (try (rename_i q; have := Bm_pos q)) <;> omega
  unfold lim at hT
  refine (hp S _ T fl .own _ [.int 0, .int 1, .int 1, .int 2, .int 2, .int 3, .int 4] hS (by unfold lim; omega) rfl (by decide) (by decide)).mono ?_
  rintro _ S1 ⟨a, rfl, ha, hS1⟩
  obtain ⟨j, hj, rfl⟩ : ∃ j : Nat, j ≤ 4 ∧ a = .int j := by
    simp only [List.mem_cons, List.not_mem_nil, or_false] at ha
    rcases ha with rfl | rfl | rfl | rfl | rfl | rfl | rfl <;> first | exact ⟨0, by decide, rfl⟩ | exact ⟨1, by decide, rfl⟩ | exact ⟨2, by decide, rfl⟩ | exact ⟨3, by decide, rfl⟩ | exact ⟨4, by decide, rfl⟩
  walk_at "ev"
  have hl : (rngD 0 (j : Int).toNat).length = j := by rw [rng_len]; rfl
  refine ⟨by omega, ?_⟩
  rw [hl]
  refine ⟨Nat.lt_of_le_of_lt hj (by decide), ?_⟩
  refine (w_lcP (fun acc S' => ∃ ts l', acc = embs ts ∧ goods ts = true ∧ (deepL ts : Int) ≤ m + 1 ∧ l' ≤ left ∧ (unitsL ts : Int) + 10 * p0 l' ≤ acc.length + 10 * p0 left ∧ St S' (Xp ++ [kitD names l']) (T + 1 + acc.length * Cm m)) ⟨[], left, rfl, rfl, by simp [deepL]; omega, by omega, by simp [unitsL], by simpa using hS1⟩ ?_).mono ?_
  · rintro acc d S2 hacc ⟨ts, l1, rfl, g1, d1, b1, u1, hS2⟩
    have hlt : (embs ts).length < j := by rw [← hl]; exact (List.getElem?_eq_some_iff.mp hacc).1
    have hmul : ((embs ts).length : Int) * Cm m + Cm m ≤ 4 * Cm m := by
      have := Int.mul_le_mul_of_nonneg_right (show ((embs ts).length : Int) + 1 ≤ 4 by omega) (show 0 ≤ Cm m by omega)
      rw [Int.add_mul, Int.one_mul] at this
      exact this
    walk_at "ev"
    refine (ht S2 Xp _ l1 deep_ names fl (lend f1) f2 hk hS2 (by unfold lim; omega) hdeep hm).mono ?_
    rintro _ S3 ⟨t, l2, rfl, g2, r2, d2, b2, u2, hS3⟩
    refine ⟨rfl, ts ++ [t], l2, by simp [embs_map], ?_, ?_, by omega, ?_, ?_⟩
    · rw [goods_all] at g1 ⊢; simp [g1, g2, r2]
    · rw [deepL_app]; simp only [deepL]; omega
    · rw [unitsL_app]; simp only [unitsL, List.length_append, List.length_cons, List.length_nil]; omega
    · rw [List.length_append, show ((List.length [((emb t, Fl.sh) : RV).fst] : Nat)) = 1 from rfl, Int.natCast_add, Int.add_mul, Int.natCast_one, Int.one_mul, ← Int.add_assoc]
      exact hS3
  · rintro _ S2 ⟨hn, ts, l1, rfl, g1, d1, b1, u1, hS2⟩
    rw [hl] at hn
    rw [hn] at u1 hS2 ⊢
    have hfin : T + 1 + (j : Int) * Cm m ≤ T + Bm m := by
      have := Int.mul_le_mul_of_nonneg_right (show (j : Int) ≤ 4 by omega) (show 0 ≤ Cm m by omega)
      omega
    have hS3 := hS2.more hfin
    split
    · rename_i h1
      match ts, hn with
      | [t], _ =>
        simp only [goods, Bool.and_eq_true, Bool.not_eq_true', and_true] at g1
        simp only [deepL] at d1
        simp only [unitsL] at u1
        simp only [embs]
        walk_at "ev"
        refine ⟨t, l1, rfl, g1.2, by omega, by omega, by omega, hS3⟩
      | [], e => simp only [embs, List.length_nil] at e; omega
      | _ :: _ :: _, e => simp only [embs, List.length_cons] at e; omega
    · rename_i h1
      have hjl : ts.length = j := by rw [← hn, embs_map, List.length_map]
      refine ⟨.row ts, l1, rfl, ?_, ?_, by omega, ?_, hS3⟩
      · simp only [good, g1, Bool.and_true, decide_eq_true_eq]; omega
      · simp only [deep]; omega
      · simp only [units]; omega
end K25

set_option maxRecDepth 100000
set_option maxHeartbeats 2000000
namespace K25
open DL DE
local macro_rules | `(tactic| walk_at "ev") => `(tactic| simp only [↓w_look, ↓w_opt_some, ↓w_cst, ↓w_nil, ↓w_cons, ↓w_tup, ↓w_lst, ↓w_T, ↓w_if, ↓DE.w_and, ↓DE.w_or, ↓w_not, ↓w_tand, ↓w_tor, ↓w_tnot, ↓w_op2, ↓w_op1, ↓w_opN, ↓w_b1, ↓w_b2, ↓w_chain, ↓w_call, ↓w_make, ↓w_prop, ↓w_own2, ↓w_fld, ↓w_lenO, ↓w_isi, ↓w_new, ↓w_noPart, ↓w_part, ↓w_sl, ↓w_seqI, ↓w_rng1, ↓w_lc, ↓w_lc0, ↓w_lc1, ↓w_dict0, ↓w_dict1, ↓w_dict, ↓w_get2, ↓w_join, ↓o_skip, ↓o_seq, ↓o_drop, ↓o_ret, ↓o_retN, ↓o_set, ↓o_own, ↓o_if, ↓o_asg, ↓o_par, ↓o_for, ↓o_for0, ↓o_forN, ↓o_put, ↓o_fldS, ↓w_body, ↓w_init, ↓w_ok, ↓o_nx,
  lk_sh, lk_own, all_nil, all_cons, v_int, v_bl, v_str, v_tup, v_lst, v_non, v_ins, v_dk, a_int, a_lst, a_tup, a_str, s_int, lt_int, le_int, gt_int, ge_int, m_lst, m_tup, len_tup, len_lst, ix_tup, ix_lst, at_0, at_1, at_2, at_3, q_str, q_int, nq_int, nq_bl, tupOf_lst, tupOf_tup, lstOf_lst, lstOf_tup, int_int, int_bl, max_int, min_int, asB_bl, asI_int, asIns_ins, two_eq, rng1_eq, seqOf_own, seqOf_sh, seqOf_bor, seqOf_tup, seqOf_str, asObj_obj,
  look0, looks, look1_sh, look1_bor, look1_own, look1_lend, lend2, lend_sh, lend_own, lend_bor, lend_mine, en_nil, en_cons, wi_nil, wi_cons, List.set_cons_zero, List.set_cons_succ, List.replicate_zero, List.replicate_succ, List.append_nil, List.nil_append, List.cons_append, List.map_cons, List.map_nil, List.length_cons, List.length_nil, Nat.reduceAdd, Nat.reduceLeDiff, sz_le, sz_lt, Option.map_some, Option.map_none, Option.some.injEq, exists_eq_left', Bool.and_true, Bool.true_and, in2, in3, sl42, sl43, sl21, sl22, sl11, sl4h2, sl4h3, any_bls, all_bls, max_ints, String.reduceBEq, Bool.or_false, Bool.false_or, Bool.or_true, Bool.true_or, Bool.or_self, Bool.not_true, Bool.not_false, and_self, true_and, and_true, if_true, if_false, decide_eq_true_eq, Bool.false_eq_true, reduceCtorEq, ite_true, ite_false])
/-! ### programs -/
def heldD (t : PT) : D := .tup [emb t, .tup (List.replicate (units t) (.int 0)), .int (deep t)]
def pI (c : Nat) (t : PT) : D := .ins c [("held", heldD t)]
mutual
def hgt : PT → Nat
  | .if_ _ y z => 1 + max (hgt y) (hgt z)
  | .while_ _ _ b => 1 + hgt b
  | .forever b => 1 + hgt b
  | .row l => 1 + hgtL l
  | _ => 1
def hgtL : List PT → Nat
  | [] => 0
  | t :: r => max (hgt t) (hgtL r)
end
mutual
theorem hgt_deep : ∀ t : PT, good t = true → hgt t ≤ 2 * deep t ∧ (isRow t = false → hgt t + 1 ≤ 2 * deep t)
  | .do_ _, _ | .ret _, _ | .go _, _ | .end_, _ => by simp [hgt, deep]
  | .if_ _ y z, h => by
    simp only [good, Bool.and_eq_true] at h
    have a := (hgt_deep y h.1.2).1
    have b := (hgt_deep z h.2).1
    simp only [hgt, deep, isRow, forall_const]
    omega
  | .while_ _ _ b, h => by
    simp only [good, Bool.and_eq_true] at h
    have a := (hgt_deep b h.2).1
    simp only [hgt, deep, isRow, forall_const]
    omega
  | .forever b, h => by
    simp only [good, Bool.and_eq_true] at h
    have a := (hgt_deep b h.2).1
    simp only [hgt, deep, isRow, forall_const]
    omega
  | .row l, h => by
    simp only [good, Bool.and_eq_true] at h
    have a := hgtL_deep l h.2
    simp only [hgt, deep, isRow]
    refine ⟨by omega, fun q => by cases q⟩
theorem hgtL_deep : ∀ l : List PT, goods l = true → hgtL l + 1 ≤ 2 * max 1 (deepL l)
  | [], _ => by simp [hgtL, deepL]
  | t :: r, h => by
    simp only [goods, Bool.and_eq_true, Bool.not_eq_true'] at h
    have a := (hgt_deep t h.1.2).2 h.1.1
    have b := hgtL_deep r h.2
    simp only [hgtL, deepL]
    omega
end
theorem hgtL_mem : ∀ {l : List PT} {t : PT}, t ∈ l → hgt t ≤ hgtL l
  | s :: r, t, h => by
    rcases List.mem_cons.mp h with rfl | h
    · simp only [hgtL]; omega
    · have := hgtL_mem h
      simp only [hgtL]; omega
def insP : PT → List PT
  | .if_ _ y z => [y, z]
  | .while_ _ _ b => [b]
  | .forever b => [b]
  | .row l => l
  | _ => []
theorem insP_hgt {t s : PT} (h : s ∈ insP t) : hgt s < hgt t := by
  cases t <;> simp only [insP, List.mem_cons, List.not_mem_nil, or_false] at h
  · rcases h with rfl | rfl <;> simp only [hgt] <;> omega
  · subst h; simp only [hgt]; omega
  · subst h; simp only [hgt]; omega
  · have := hgtL_mem h; simp only [hgt]; omega
theorem insP_good {t s : PT} (g : good t = true) (h : s ∈ insP t) : good s = true := by
  cases t <;> simp only [insP, List.mem_cons, List.not_mem_nil, or_false] at h <;> simp only [good, Bool.and_eq_true] at g
  · rcases h with rfl | rfl
    · exact g.1.2
    · exact g.2
  · subst h; exact g.2
  · subst h; exact g.2
  · have := g.2
    rw [goods_all] at this
    have := List.all_eq_true.mp this _ h
    simp only [Bool.and_eq_true] at this
    exact this.2
theorem lt_line {n : Nat} (h : n ≤ 5000) : n < PySem.sizeLine := Nat.lt_of_le_of_lt h (by decide)
mutual
theorem row_units : ∀ (t : PT), (insP t).length + 1 ≤ units t + 1
  | .do_ _ | .ret _ | .go _ | .end_ => by simp [insP]
  | .if_ _ y z => by have := row_units y; have := units1 y; have := units1 z; simp only [insP, units, List.length_cons, List.length_nil]; omega
  | .while_ _ _ b => by simp only [insP, units, List.length_cons, List.length_nil]; omega
  | .forever b => by simp only [insP, units, List.length_cons, List.length_nil]; omega
  | .row l => by have := row_unitsL l; simp only [insP, units]; omega
theorem row_unitsL : ∀ (l : List PT), l.length ≤ unitsL l
  | [] => by simp
  | t :: r => by have := units1 t; have := row_unitsL r; simp only [unitsL, List.length_cons]; omega
theorem units1 : ∀ (t : PT), 1 ≤ units t
  | .do_ _ | .ret _ | .go _ | .end_ => by simp [units]
  | .if_ _ y z => by simp only [units]; omega
  | .while_ _ _ b => by simp only [units]; omega
  | .forever b => by simp only [units]; omega
  | .row l => by simp only [units]; omega
end
end K25

set_option maxRecDepth 100000
set_option maxHeartbeats 2000000
namespace K25
open DL DE
local macro_rules | `(tactic| walk_at "ev") => `(tactic| try simp only [↓w_look, ↓w_opt_some, ↓w_cst, ↓w_nil, ↓w_cons, ↓w_tup, ↓w_lst, ↓w_T, ↓w_if, ↓DE.w_and, ↓DE.w_or, ↓w_not, ↓w_tand, ↓w_tor, ↓w_tnot, ↓w_op2, ↓w_op1, ↓w_opN, ↓w_b1, ↓w_b2, ↓w_chain, ↓w_call, ↓w_make, ↓w_prop, ↓w_own2, ↓w_fld, ↓w_lenO, ↓w_isi, ↓w_new, ↓w_noPart, ↓w_part, ↓w_sl, ↓w_seqI, ↓w_rng1, ↓w_lc, ↓w_lc0, ↓w_lc1, ↓w_dict0, ↓w_dict1, ↓w_dict, ↓w_get2, ↓w_join, ↓o_skip, ↓o_seq, ↓o_drop, ↓o_ret, ↓o_retN, ↓o_set, ↓o_own, ↓o_if, ↓o_asg, ↓o_par, ↓o_for, ↓o_for0, ↓o_forN, ↓o_put, ↓o_fldS, ↓w_body, ↓w_init, ↓w_ok, ↓o_nx,
  lk_sh, lk_own, all_nil, all_cons, v_int, v_bl, v_str, v_tup, v_lst, v_non, v_ins, v_dk, a_int, a_lst, a_tup, a_str, s_int, lt_int, le_int, gt_int, ge_int, m_lst, m_tup, len_tup, len_lst, ix_tup, ix_lst, at_0, at_1, at_2, at_3, q_str, q_int, nq_int, nq_bl, tupOf_lst, tupOf_tup, lstOf_lst, lstOf_tup, int_int, int_bl, max_int, min_int, asB_bl, asI_int, asIns_ins, two_eq, rng1_eq, seqOf_own, seqOf_sh, seqOf_bor, seqOf_tup, seqOf_str, asObj_obj,
  look0, looks, look1_sh, look1_bor, look1_own, look1_lend, lend2, lend_sh, lend_own, lend_bor, lend_mine, en_nil, en_cons, wi_nil, wi_cons, List.set_cons_zero, List.set_cons_succ, List.replicate_zero, List.replicate_succ, List.append_nil, List.nil_append, List.cons_append, List.map_cons, List.map_nil, List.length_cons, List.length_nil, Nat.reduceAdd, Nat.reduceLeDiff, sz_le, sz_lt, Option.map_some, Option.map_none, Option.some.injEq, exists_eq_left', Bool.and_true, Bool.true_and, in2, in3, sl42, sl43, sl21, sl22, sl11, sl4h2, sl4h3, any_bls, all_bls, max_ints, String.reduceBEq, Bool.or_false, Bool.false_or, Bool.or_true, Bool.true_or, Bool.or_self, Bool.not_true, Bool.not_false, and_self, true_and, and_true, if_true, if_false, decide_eq_true_eq, Bool.false_eq_true, reduceCtorEq, ite_true, ite_false])
def wordP : PT → String
  | .do_ _ => "do"
  | .ret _ => "return"
  | .go _ => "go"
  | .end_ => "end"
  | .if_ _ _ _ => "if"
  | .while_ _ _ _ => "while"
  | .forever _ => "forever"
  | .row _ => "row"
theorem ix0 {t : PT} {a b : Fl} {S : Store} : oIdx (emb t, a) (.int 0, b) S = some (.str (wordP t), .sh) := by
  cases t <;> simp only [emb, ix_tup, at_0, Option.map_some, wordP]
theorem row_word (t : PT) : (wordP t == "row") = isRow t := by cases t <;> rfl
theorem insP_units {t s : PT} (h : s ∈ insP t) : units s < units t := by
  have mem : ∀ {l : List PT}, s ∈ l → units s ≤ unitsL l := fun {l} h => by
    induction l with
    | nil => cases h
    | cons a r ih =>
      simp only [unitsL]
      rcases List.mem_cons.mp h with rfl | h
      · omega
      · have := ih h; omega
  cases t <;> simp only [insP, List.mem_cons, List.not_mem_nil, or_false] at h
  · rcases h with rfl | rfl <;> simp only [units] <;> omega
  · subst h; simp only [units]; omega
  · subst h; simp only [units]; omega
  · have := mem h; simp only [units]; omega
theorem lc_call {F : SF} {g : PT → D} {i : Nat} {ρ : Loc} {S : Store} {l : List PT} (hi : i < ρ.length) (h : ∀ t ∈ l, F [(emb t, .sh)] S = .ok (g t, .sh) S) :
    lcI (gNm i) sYes (sCall 1 F [] (sCons (sVar i) sNil)) ρ (embs l) S = .ok (l.map g) S := by
  rw [embs_map]
  refine lc_map emb g l fun t ht => ⟨.sh, ?_, rfl⟩
  refine WR.eq ?_
  rw [w_call, w_cons, w_look]
  have : look (ρ.set i (some (emb t, .sh))) i = some (emb t, .sh) := look_sh (by rw [List.getElem?_set_self hi])
  rw [this, w_opt_some, w_nil]
  refine ⟨rfl, ?_⟩
  rw [show ([(emb t, (.sh : Fl))] ++ [] : List RV) = [(emb t, .sh)] from rfl, h t ht]
  exact ⟨rfl, rfl⟩
end K25

set_option maxRecDepth 100000
set_option maxHeartbeats 2000000
namespace K25
open DL DE
local macro_rules | `(tactic| walk_at "ev") => `(tactic| try simp only [↓w_look, ↓w_opt_some, ↓w_cst, ↓w_nil, ↓w_cons, ↓w_tup, ↓w_lst, ↓w_T, ↓w_if, ↓DE.w_and, ↓DE.w_or, ↓w_not, ↓w_tand, ↓w_tor, ↓w_tnot, ↓w_op2, ↓w_op1, ↓w_opN, ↓w_b1, ↓w_b2, ↓w_chain, ↓w_call, ↓w_make, ↓w_prop, ↓w_own2, ↓w_fld, ↓w_lenO, ↓w_isi, ↓w_new, ↓w_noPart, ↓w_part, ↓w_sl, ↓w_seqI, ↓w_rng1, ↓w_lc, ↓w_lc0, ↓w_lc1, ↓w_dict0, ↓w_dict1, ↓w_dict, ↓w_get2, ↓w_join, ↓o_skip, ↓o_seq, ↓o_drop, ↓o_ret, ↓o_retN, ↓o_set, ↓o_own, ↓o_if, ↓o_asg, ↓o_par, ↓o_for, ↓o_for0, ↓o_forN, ↓o_put, ↓o_fldS, ↓w_body, ↓w_init, en0, self_eq, put_held, List.length_nil, ↓w_ok, ↓o_nx,
  lk_sh, lk_own, lk_int, lk_str, lk_tup, lk_bl, lk_non, lk_obj, all_nil, all_cons, v_int, v_bl, v_str, v_tup, v_lst, v_non, v_ins, v_dk, a_int, a_lst, a_tup, a_str, s_int, lt_int, le_int, gt_int, ge_int, m_lst, m_tup, len_tup, len_lst, ix_tup, ix_lst, at_0, at_1, at_2, at_3, q_str, q_int, nq_int, nq_bl, tupOf_lst, tupOf_tup, lstOf_lst, lstOf_tup, int_int, int_bl, max_int, min_int, asB_bl, asI_int, asIns_ins, two_eq, one_eq, rng1_eq, seqOf_own, seqOf_sh, seqOf_bor, seqOf_tup, seqOf_str, asObj_obj,
  look0, looks, look1_sh, look1_bor, look1_own, look1_lend, lend2, lend_sh, lend_own, lend_bor, lend_mine, en_nil, en_cons, wi_nil, wi_cons, List.set_cons_zero, List.set_cons_succ, List.replicate_zero, List.replicate_succ, List.append_nil, List.nil_append, List.cons_append, List.map_cons, List.map_nil, List.length_cons, List.length_nil, Nat.reduceAdd, Nat.reduceLeDiff, sz_le, sz_lt, Option.map_some, Option.map_none, Option.some.injEq, exists_eq_left', Bool.and_true, Bool.true_and, in2, in3, sl42, sl43, sl21, sl22, sl11, sl4h2, sl4h3, any_bls, all_bls, max_ints, String.reduceBEq, Bool.or_false, Bool.false_or, Bool.or_true, Bool.true_or, Bool.or_self, Bool.not_true, Bool.not_false, and_self, true_and, and_true, if_true, if_false, decide_eq_true_eq, Bool.false_eq_true, reduceCtorEq, ite_true, ite_false])
/-! ### names, programs -/
theorem isi_str {x : String} : isiP pb_str pc_str (.str x) = some true := by simp [isiP, tyD, pb_str]
theorem isi_tup {x : List D} : isiP pb_tuple pc_tuple (.tup x) = some true := by simp [isiP, tyD, pb_tuple]
theorem isi_int {x : Int} : isiP pb_int pc_int (.int x) = some true := by simp [isiP, tyD, pb_int]
theorem isi_intb {x : Int} : isiP pb_bool pc_bool (.int x) = some false := by simp [isiP, tyD, pb_bool]
theorem isi_bool {x : Bool} : isiP pb_bool pc_bool (.bl x) = some true := by simp [isiP, tyD, pb_bool]
theorem isi_prog {c : Nat} {fs : List (String × D)} (h : okP c = true) : isiP pb_Program pc_Program (.ins c fs) = some true := by
  have h' := h
  simp only [okP, Bool.and_eq_true, decide_eq_true_eq] at h'
  have : c ∈ [1, 2, 3, 4, 5, 6, 7, 8] := by simp; omega
  simp only [isiP, pc_Program, h, if_true, this, decide_true]
theorem isi_row {c : Nat} {fs : List (String × D)} (h : okP c = true) : isiP pb_Row pc_Row (.ins c fs) = some (decide (c = 8)) := by
  simp only [isiP, pc_Row, h, if_true, List.mem_singleton]
def NameU (F : SF) : Prop := ∀ (x : String) (fl : Fl) (S : Store), nameB x = true → F [(.str x, fl)] S = .ok (.bl true, .sh) S
theorem nameB_len {x : String} (h : nameB x = true) : 1 ≤ x.length ∧ x.length ≤ 8 := by
  simp only [nameB, Bool.and_eq_true, decide_eq_true_eq] at h
  exact ⟨h.1.1.1, h.1.1.2⟩
theorem isName_sem (E : Sem) : NameU (step E).is_name := by
  intro x fl S h
  have hl := nameB_len h
  simp only [nameB, Bool.and_eq_true, decide_eq_true_eq, List.all_eq_true] at h
  refine WR.eq ?_
  show WR (bodyF 2 (v_is_name E) _ _) _
  unfold v_is_name
  walk_at "ev"
  rw [isi_str]
  walk_at "ev"
  rw [show oLen (.str x, lend fl) S = some (.int x.length, .sh) by simp only [oLen, view]; rw [if_pos (small (by omega))]]
  unfold k_LONGEST
  walk_at "ev"
  rw [if_pos (by omega), show decide ((x.length : Int) ≤ 8) = true by simp; omega]
  walk_at "ev"
  rw [show oIn (.str x, lend fl) (k_KEPT, .sh) S = some (.bl (decide (x ∈ keptL)), .sh) by
    have := mem_strs (x := x) keptL
    unfold k_KEPT
    simp only [oIn, oInG, view, inSeq]
    rw [show plains [D.str "ask", .str "do", .str "else", .str "end", .str "go", .str "if", .str "not", .str "pass", .str "piece", .str "return", .str "true", .str "while"] = true from plains_strs keptL]
    simp only [plain, dep]
    simpa [keptL] using this]
  walk_at "ev"
  simp only [h.2, decide_false]
  walk_at "ev"
  unfold signs
  rw [lc_map (fun c => .str (String.singleton c)) (fun c => .bl true) x.toList fun c hc => ⟨.sh, by
    refine WR.eq ?_
    walk_at "ev"
    have := h.1.2 c hc
    have e : oIn (.str (String.singleton c), .sh) (k_LETTERS, .sh) S = some (.bl true, .sh) := by
      simp only [oIn, oInG, view, k_LETTERS, signIn]
      simp only [letters] at this
      simp only [String.toList_singleton, decide_eq_true this, String.length_singleton]
      rfl
    rw [e]
    exact ⟨rfl, rfl⟩, rfl⟩]
  walk_at "ev"
  rw [show (x.toList.map fun _ => D.bl true) = (x.toList.map fun _ => true).map D.bl by simp]
  walk_at "ev"
  refine ⟨?_, ?_⟩
  · rw [List.length_map, String.length_toList]; exact lt_line (by omega)
  · simp
def NeedN (F : SF) : Prop := ∀ (x : String) (fl : Fl) (S : Store), nameB x = true → F [(.str x, fl)] S = .ok (.non, .sh) S
theorem needName_sem {E : Sem} (h : NameU E.is_name) : NeedN (step E).need_name := by
  intro x fl S hx
  refine WR.eq ?_
  show WR (bodyF 1 (v_need_name E) _ _) _
  unfold v_need_name
  walk_at "ev"
  rw [h x _ S hx]
  walk_at "ev"
def NeedP (F : SF) : Prop := ∀ (c : Nat) (fs : List (String × D)) (fl : Fl) (S : Store), okP c = true → F [(.ins c fs, fl)] S = .ok (.non, .sh) S
theorem needProg_sem (E : Sem) : NeedP (step E).need_program := by
  intro c fs fl S hc
  refine WR.eq ?_
  show WR (bodyF 1 (v_need_program E) _ _) _
  unfold v_need_program
  walk_at "ev"
  rw [isi_prog hc]
  walk_at "ev"
def NumU (F : SF) : Prop := ∀ (i : Int) (fl : Fl) (S : Store), F [(.int i, fl)] S = .ok (.bl true, .sh) S
theorem isNumber_sem (E : Sem) : NumU (step E).is_number := by
  intro i fl S
  refine WR.eq ?_
  show WR (bodyF 1 (v_is_number E) _ _) _
  unfold v_is_number
  walk_at "ev"
  rw [isi_int]
  walk_at "ev"
  rw [isi_intb]
  walk_at "ev"
theorem flat_zero (n : Nat) : (List.replicate n [D.int 0]).flatten = List.replicate n (.int 0) := by
  induction n with
  | zero => rfl
  | succ n ih => rw [List.replicate_succ, List.flatten_cons, ih]; rfl
def SizeU (F : SF) : Prop := ∀ (d : D) (u p : Int) (fl f1 f2 : Fl) (S : Store), leakOk (d, lend fl) = true → 0 ≤ u → u ≤ 5000 → p ≤ 60 → F [(d, fl), (.int u, f1), (.int p, f2)] S = .ok (.tup [d, .tup (List.replicate u.toNat (.int 0)), .int p], .sh) S
theorem sized_sem (E : Sem) : SizeU (step E).sized := by
  intro d u p fl f1 f2 S hd h0 hu hp
  refine WR.eq ?_
  show WR (bodyF 3 (v_sized E) _ _) _
  unfold v_sized k_MOST_PARTS k_DEEPEST
  walk_at "ev"
  rw [if_neg (by omega), if_neg (by omega), if_pos (by omega)]
  walk_at "ev"
  rw [hd]
  simp only [Int.toNat_natCast, flat_zero]
  walk_at "ev"
/-! ### making programs -/
theorem heldD_leak {t : PT} {fl : Fl} : leakOk (heldD t, fl) = true := by simp [leakOk, heldD, box]
theorem getHeld {t : PT} : getN [("held", heldD t)] "held" = some (heldD t) := by simp [getN_cons]
theorem pI_view {S : Store} {c : Nat} {t : PT} : view S (pI c t) = pI c t := rfl
theorem pI_asIns {c : Nat} {t : PT} : asIns (pI c t) = some (c, [("held", heldD t)]) := rfl
theorem pI_fold {c : Nat} {t : PT} : D.ins c [("held", heldD t)] = pI c t := rfl
theorem pI_leak {c : Nat} {t : PT} : leakOk (pI c t, .sh) = true := rfl
theorem hd0 {t : PT} {a b : Fl} {S : Store} : oIdx (heldD t, a) (.int 0, b) S = some (emb t, .sh) := by unfold heldD; rw [ix_tup, at_0]; rfl
theorem hd1 {t : PT} {a b : Fl} {S : Store} : oIdx (heldD t, a) (.int 1, b) S = some (.tup (List.replicate (units t) (.int 0)), .sh) := by unfold heldD; rw [ix_tup, at_1]; rfl
theorem hd2 {t : PT} {a b : Fl} {S : Store} : oIdx (heldD t, a) (.int 2, b) S = some (.int (deep t), .sh) := by unfold heldD; rw [ix_tup, at_2]; rfl
local macro_rules | `(tactic| walk_at "ev") => `(tactic| try simp only [↓w_look, ↓w_opt_some, ↓w_cst, ↓w_nil, ↓w_cons, ↓w_tup, ↓w_lst, ↓w_T, ↓w_if, ↓DE.w_and, ↓DE.w_or, ↓w_not, ↓w_tand, ↓w_tor, ↓w_tnot, ↓w_op2, ↓w_op1, ↓w_opN, ↓w_b1, ↓w_b2, ↓w_chain, ↓w_call, ↓w_make, ↓w_prop, ↓w_own2, ↓w_fld, ↓w_lenO, ↓w_isi, ↓w_new, ↓w_noPart, ↓w_part, ↓w_sl, ↓w_seqI, ↓w_rng1, ↓w_lc, ↓w_lc0, ↓w_lc1, ↓w_dict0, ↓w_dict1, ↓w_dict, ↓w_get2, ↓w_join, ↓o_skip, ↓o_seq, ↓o_drop, ↓o_ret, ↓o_retN, ↓o_set, ↓o_own, ↓o_if, ↓o_asg, ↓o_par, ↓o_for, ↓o_for0, ↓o_forN, ↓o_put, ↓o_fldS, ↓w_body, ↓w_init, en0, self_eq, put_held, List.length_nil, ↓w_ok, ↓o_nx,
  lk_sh, lk_own, lk_int, lk_str, lk_tup, lk_bl, lk_non, lk_obj, all_nil, all_cons, v_int, v_bl, v_str, v_tup, v_lst, v_non, v_ins, v_dk, a_int, a_lst, a_tup, a_str, s_int, lt_int, le_int, gt_int, ge_int, m_lst, m_tup, len_tup, len_lst, ix_tup, ix_lst, at_0, at_1, at_2, at_3, q_str, q_int, nq_int, nq_bl, tupOf_lst, tupOf_tup, lstOf_lst, lstOf_tup, int_int, int_bl, max_int, min_int, asB_bl, asI_int, asIns_ins, two_eq, one_eq, rng1_eq, seqOf_own, seqOf_sh, seqOf_bor, seqOf_tup, seqOf_str, asObj_obj,
  look0, looks, look1_sh, look1_bor, look1_own, look1_lend, lend2, lend_sh, lend_own, lend_bor, lend_mine, en_nil, en_cons, wi_nil, wi_cons, List.set_cons_zero, List.set_cons_succ, List.replicate_zero, List.replicate_succ, List.append_nil, List.nil_append, List.cons_append, List.map_cons, List.map_nil, List.length_cons, List.length_nil, Nat.reduceAdd, Nat.reduceLeDiff, sz_le, sz_lt, Option.map_some, Option.map_none, Option.some.injEq, exists_eq_left', Bool.and_true, Bool.true_and, in2, in3, sl42, sl43, sl21, sl22, sl11, sl4h2, sl4h3, any_bls, all_bls, max_ints, String.reduceBEq, Bool.or_false, Bool.false_or, Bool.or_true, Bool.true_or, Bool.or_self, pI_view, pI_asIns, pI_fold, pI_leak, getHeld, hd0, hd1, hd2, emb_leak, Bool.not_true, Bool.not_false, and_self, true_and, and_true, if_true, if_false, decide_eq_true_eq, Bool.false_eq_true, reduceCtorEq, ite_true, ite_false])

def ToldP (F : SF) : Prop := ∀ (c : Nat) (t : PT) (fl : Fl) (S : Store), okP c = true → F [(pI c t, fl)] S = .ok (emb t, .sh) S
theorem toldP_sem (E : Sem) : ToldP (step E).told := by
  intro c t fl S hc
  refine WR.eq ?_
  show WR (bodyF 1 (v_told E) _ _) _
  unfold v_told
  walk_at "ev"
  exact hc
def LenP (F : SF) : Prop := ∀ (c : Nat) (t : PT) (fl : Fl) (S : Store), okP c = true → F [(pI c t, fl)] S = .ok (.int (units t), .sh) S
theorem lenP_sem (E : Sem) : LenP (step E).plen := by
  intro c t fl S hc
  refine WR.eq ?_
  show WR (bodyF 1 (v_plen E) _ _) _
  unfold v_plen
  walk_at "ev"
  exact ⟨hc, by simp⟩
structure PB (E : Sem) : Prop where
  nn : NeedN E.need_name
  np : NeedP E.need_program
  sz : SizeU E.sized
  td : ToldP E.told
  ln : LenP E.plen
  num : NumU E.is_number
theorem np' {E : Sem} (b : PB E) (c : Nat) (t : PT) (fl : Fl) (S : Store) (h : okP c = true) : E.need_program [(pI c t, fl)] S = .ok (.non, .sh) S := b.np c _ fl S h
def DoP (F : SF) : Prop := ∀ (x : String) (fl : Fl) (S : Store), nameB x = true → F [(.str x, fl)] S = .ok (pI 1 (.do_ x), .own) S
theorem do_sem {E : Sem} (b : PB E) : DoP (step E).i_Do := by
  intro x fl S hx
  refine WR.eq ?_
  show WR (initF 2 1 (v_i_Do E) _ _) _
  unfold v_i_Do
  walk_at "ev"
  rw [b.nn x _ S hx]
  walk_at "ev"
  rw [b.sz _ 1 1 _ _ _ _ lk_tup (by decide) (by decide) (by decide)]
  walk_at "ev"
  exact ⟨⟨by decide, by decide⟩, rfl⟩
def RetP (F : SF) : Prop := ∀ (x : String) (fl : Fl) (S : Store), nameB x = true → F [(.str x, fl)] S = .ok (pI 2 (.ret x), .own) S
theorem ret_sem {E : Sem} (b : PB E) : RetP (step E).i_Return := by
  intro x fl S hx
  refine WR.eq ?_
  show WR (initF 2 2 (v_i_Return E) _ _) _
  unfold v_i_Return
  walk_at "ev"
  rw [b.nn x _ S hx]
  walk_at "ev"
  rw [b.sz _ 1 1 _ _ _ _ lk_tup (by decide) (by decide) (by decide)]
  walk_at "ev"
  exact ⟨⟨by decide, by decide⟩, rfl⟩
def GoP (F : SF) : Prop := ∀ (x : String) (fl : Fl) (S : Store), nameB x = true → F [(.str x, fl)] S = .ok (pI 3 (.go x), .own) S
theorem go_sem {E : Sem} (b : PB E) : GoP (step E).i_Go := by
  intro x fl S hx
  refine WR.eq ?_
  show WR (initF 2 3 (v_i_Go E) _ _) _
  unfold v_i_Go
  walk_at "ev"
  rw [b.nn x _ S hx]
  walk_at "ev"
  rw [b.sz _ 1 1 _ _ _ _ lk_tup (by decide) (by decide) (by decide)]
  walk_at "ev"
  exact ⟨⟨by decide, by decide⟩, rfl⟩
def EndP (F : SF) : Prop := ∀ (S : Store), F [] S = .ok (pI 4 .end_, .own) S
theorem end_sem {E : Sem} (b : PB E) : EndP (step E).i_End := by
  intro S
  refine WR.eq ?_
  show WR (initF 1 4 (v_i_End E) _ _) _
  unfold v_i_End
  walk_at "ev"
  rw [b.sz _ 1 1 _ _ _ _ lk_tup (by decide) (by decide) (by decide)]
  walk_at "ev"
  exact ⟨⟨by decide, by decide⟩, rfl⟩
def IfP (F : SF) : Prop := ∀ (x : String) (c1 c2 : Nat) (y z : PT) (fl f1 f2 : Fl) (S : Store), nameB x = true → okP c1 = true → okP c2 = true → units (.if_ x y z) ≤ 5000 → deep (.if_ x y z) ≤ 60 →
  F [(.str x, fl), (pI c1 y, f1), (pI c2 z, f2)] S = .ok (pI 5 (.if_ x y z), .own) S
theorem if_sem {E : Sem} (b : PB E) : IfP (step E).i_If := by
  intro x c1 c2 y z fl f1 f2 S hx h1 h2 hu hd
  simp only [units, deep] at hu hd
  refine WR.eq ?_
  show WR (initF 4 5 (v_i_If E) _ _) _
  unfold v_i_If
  walk_at "ev"
  rw [b.nn x _ S hx]
  walk_at "ev"
  rw [np' b c1 y _ S h1]
  walk_at "ev"
  rw [np' b c2 z _ S h2]
  walk_at "ev"
  refine ⟨h1, ?_⟩
  rw [b.td c1 y _ S h1]
  walk_at "ev"
  refine ⟨h2, ?_⟩
  rw [b.td c2 z _ S h2]
  walk_at "ev"
  refine ⟨h1, ?_⟩
  rw [b.ln c1 y _ S h1]
  walk_at "ev"
  refine ⟨by omega, h2, ?_⟩
  rw [b.ln c2 z _ S h2]
  walk_at "ev"
  refine ⟨by omega, h1, h2, ?_⟩
  have eu : (1 + (units y : Int) + units z).toNat = 1 + units y + units z := by omega
  have ed : (1 : Int) + (if (deep z : Int) > deep y then (deep z : Int) else deep y) = ((1 + max (deep y) (deep z) : Nat) : Int) := by split <;> omega
  rw [ed, b.sz _ _ _ _ _ _ _ lk_tup (by omega) (by omega) (by omega), eu]
  walk_at "ev"
  exact ⟨⟨by decide, by decide⟩, rfl⟩
def WhileP (F : SF) : Prop := ∀ (x : String) (c1 : Nat) (y : PT) (w : Bool) (fl f1 f2 : Fl) (S : Store), nameB x = true → okP c1 = true → units (.while_ x w y) ≤ 5000 → deep (.while_ x w y) ≤ 60 →
  F [(.str x, fl), (pI c1 y, f1), (.bl w, f2)] S = .ok (pI 6 (.while_ x w y), .own) S
theorem while_sem {E : Sem} (b : PB E) : WhileP (step E).i_While := by
  intro x c1 y w fl f1 f2 S hx h1 hu hd
  simp only [units, deep] at hu hd
  refine WR.eq ?_
  show WR (initF 4 6 (v_i_While E) _ _) _
  unfold v_i_While
  walk_at "ev"
  rw [b.nn x _ S hx]
  walk_at "ev"
  rw [np' b c1 y _ S h1]
  walk_at "ev"
  rw [isi_bool]
  walk_at "ev"
  refine ⟨h1, ?_⟩
  rw [b.td c1 y _ S h1]
  walk_at "ev"
  refine ⟨h1, ?_⟩
  rw [b.ln c1 y _ S h1]
  walk_at "ev"
  refine ⟨by omega, h1, ?_⟩
  have eu : (1 + (units y : Int)).toNat = 1 + units y := by omega
  have ed : (1 : Int) + (deep y : Int) = ((1 + deep y : Nat) : Int) := by omega
  rw [ed, b.sz _ _ _ _ _ _ _ lk_tup (by omega) (by omega) (by omega), eu]
  walk_at "ev"
  exact ⟨⟨by decide, by decide⟩, rfl⟩
def ForeverP (F : SF) : Prop := ∀ (c1 : Nat) (y : PT) (f1 : Fl) (S : Store), good y = true → isNil y = false → okP c1 = true → units (.forever y) ≤ 5000 → deep (.forever y) ≤ 60 →
  F [(pI c1 y, f1)] S = .ok (pI 7 (.forever y), .own) S
theorem forever_sem {E : Sem} (b : PB E) : ForeverP (step E).i_Forever := by
  intro c1 y f1 S hg hn h1 hu hd
  simp only [units, deep] at hu hd
  refine WR.eq ?_
  show WR (initF 2 7 (v_i_Forever E) _ _) _
  unfold v_i_Forever
  walk_at "ev"
  rw [np' b c1 y _ S h1]
  walk_at "ev"
  refine ⟨h1, ?_⟩
  rw [b.td c1 y _ S h1]
  unfold k_NOTHING
  walk_at "ev"
  rw [eq_nil hg (by omega), hn]
  walk_at "ev"
  refine ⟨h1, ?_⟩
  rw [b.td c1 y _ S h1]
  walk_at "ev"
  refine ⟨h1, ?_⟩
  rw [b.ln c1 y _ S h1]
  walk_at "ev"
  refine ⟨by omega, h1, ?_⟩
  have eu : (1 + (units y : Int)).toNat = 1 + units y := by omega
  have ed : (1 : Int) + (deep y : Int) = ((1 + deep y : Nat) : Int) := by omega
  rw [ed, b.sz _ _ _ _ _ _ _ lk_tup (by omega) (by omega) (by omega), eu]
  walk_at "ev"
  exact ⟨⟨by decide, by decide⟩, rfl⟩
end K25

set_option maxRecDepth 100000
set_option maxHeartbeats 2000000
namespace K25
open DL DE
local macro_rules | `(tactic| walk_at "ev") => `(tactic| try simp only [↓w_look, ↓w_opt_some, ↓w_cst, ↓w_nil, ↓w_cons, ↓w_tup, ↓w_lst, ↓w_T, ↓w_if, ↓DE.w_and, ↓DE.w_or, ↓w_not, ↓w_tand, ↓w_tor, ↓w_tnot, ↓w_op2, ↓w_op1, ↓w_opN, ↓w_b1, ↓w_b2, ↓w_chain, ↓w_call, ↓w_make, ↓w_prop, ↓w_own2, ↓w_fld, ↓w_lenO, ↓w_isi, ↓w_new, ↓w_noPart, ↓w_part, ↓w_sl, ↓w_seqI, ↓w_rng1, ↓w_lc, ↓w_lc0, ↓w_lc1, ↓w_dict0, ↓w_dict1, ↓w_dict, ↓w_get2, ↓w_join, ↓o_skip, ↓o_seq, ↓o_drop, ↓o_ret, ↓o_retN, ↓o_set, ↓o_own, ↓o_if, ↓o_asg, ↓o_par, ↓o_for, ↓o_for0, ↓o_forN, ↓o_put, ↓o_fldS, ↓w_body, ↓w_init, en0, self_eq, put_held, List.length_nil, ↓w_ok, ↓o_nx,
  lk_sh, lk_own, lk_int, lk_str, lk_tup, lk_bl, lk_non, lk_obj, all_nil, all_cons, v_int, v_bl, v_str, v_tup, v_lst, v_non, v_ins, v_dk, a_int, a_lst, a_tup, a_str, s_int, lt_int, le_int, gt_int, ge_int, m_lst, m_tup, len_tup, len_lst, ix_tup, ix_lst, at_0, at_1, at_2, at_3, q_str, q_int, nq_int, nq_bl, tupOf_lst, tupOf_tup, lstOf_lst, lstOf_tup, int_int, int_bl, max_int, min_int, asB_bl, asI_int, asIns_ins, two_eq, one_eq, rng1_eq, seqOf_own, seqOf_sh, seqOf_bor, seqOf_tup, seqOf_str, asObj_obj,
  look0, looks, look1_sh, look1_bor, look1_own, look1_lend, lend2, lend_sh, lend_own, lend_bor, lend_mine, en_nil, en_cons, wi_nil, wi_cons, List.set_cons_zero, List.set_cons_succ, List.replicate_zero, List.replicate_succ, List.append_nil, List.nil_append, List.cons_append, List.map_cons, List.map_nil, List.length_cons, List.length_nil, Nat.reduceAdd, Nat.reduceLeDiff, sz_le, sz_lt, Option.map_some, Option.map_none, Option.some.injEq, exists_eq_left', Bool.and_true, Bool.true_and, in2, in3, sl42, sl43, sl21, sl22, sl11, sl4h2, sl4h3, any_bls, all_bls, max_ints, String.reduceBEq, Bool.or_false, Bool.false_or, Bool.or_true, Bool.true_or, Bool.or_self, pI_view, pI_asIns, pI_fold, pI_leak, getHeld, hd0, hd1, hd2, emb_leak, Bool.not_true, Bool.not_false, and_self, true_and, and_true, if_true, if_false, decide_eq_true_eq, Bool.false_eq_true, reduceCtorEq, ite_true, ite_false])
def partsP : PT → List PT
  | .row l => l
  | t => [t]
def joinL (ts : List PT) : List PT := ts.flatMap partsP
def one1 : List PT → PT
  | [t] => t
  | l => .row l
def joinP (ts : List PT) : PT := one1 (joinL ts)
theorem parts_emb {t : PT} : partsP t = if isRow t = true then insP t else [t] := by cases t <;> simp [partsP, isRow, insP]
def PartsOk (F : SF) : Prop := ∀ (t : PT) (fl : Fl) (S : Store), F [(emb t, fl)] S = .ok (.tup (embs (partsP t)), .sh) S
theorem ix1_row {l : List PT} {a b : Fl} {S : Store} : oIdx (emb (.row l), a) (.int 1, b) S = some (.tup (embs l), .sh) := by simp only [emb, ix_tup, at_1, Option.map_some]
theorem parts_sem (E : Sem) : PartsOk (step E).parts_of := by
  intro t fl S
  refine WR.eq ?_
  show WR (bodyF 1 (v_parts_of E) _ _) _
  unfold v_parts_of
  walk_at "ev"
  rw [ix0]
  walk_at "ev"
  rw [row_word]
  cases t with
  | row l =>
    simp only [isRow, if_true]
    rw [ix1_row]
    walk_at "ev"
    rfl
  | _ =>
    simp only [isRow, if_false, Bool.false_eq_true]
    rfl
theorem good_parts {t : PT} (g : good t = true) : (partsP t).length = 1 ∧ isRow t = false ∨ (partsP t).length ≠ 1 ∧ ∃ l, t = .row l := by
  cases t with
  | row l =>
    simp only [good, Bool.and_eq_true, decide_eq_true_eq] at g
    exact .inr ⟨g.1, l, rfl⟩
  | _ => exact .inl ⟨rfl, rfl⟩
theorem units_parts {t : PT} (g : good t = true) : (units t : Int) - (if (partsP t).length = 1 then 0 else 1) = unitsL (partsP t) := by
  rcases good_parts g with ⟨h, r⟩ | ⟨h, l, rfl⟩
  · cases t <;> simp_all [partsP, unitsL, isRow]
  · rw [if_neg h]
    simp only [units, partsP]
    omega
theorem deep_parts (t : PT) : max 1 (deepL (partsP t)) = deep t := by
  cases t with
  | row l => rfl
  | _ => simp only [partsP, deepL]; have := good_deep1 ; simp only [deep]; omega
theorem embs_app (l k : List PT) : embs (l ++ k) = embs l ++ embs k := by simp [embs_map]
theorem asg_held {a b c : Nat} {t : PT} {ρ : Loc} : gTp 3 (gAnd (gNm a) (gAnd (gNm b) (gAnd (gNm c) gNo))) (heldD t) ρ = some (((ρ.set a (some (emb t, .sh))).set b (some (.tup (List.replicate (units t) (.int 0)), .sh))).set c (some (.int (deep t), .sh))) := by
  simp [gTp, heldD, gAnd, gNm, gNo]
theorem joinL_snoc (ts : List PT) (t : PT) : joinL (ts ++ [t]) = joinL ts ++ partsP t := by simp [joinL]
theorem joinL_app (ts us : List PT) : joinL (ts ++ us) = joinL ts ++ joinL us := by simp [joinL]
def pIs (ps : List (Nat × PT)) : List D := ps.map fun p => pI p.1 p.2
theorem units_join (ts : List PT) : unitsL (joinL ts) ≤ units (joinP ts) := by
  unfold joinP one1
  split
  · rename_i t h; rw [h]; simp [unitsL]
  · simp only [units]; omega
theorem deep_join (ts : List PT) : max 1 (deepL (joinL ts)) = deep (joinP ts) := by
  unfold joinP one1
  split
  · rename_i t h; rw [h]; have := good_deep1 t; simp only [deepL]; omega
  · simp only [deep]
def RowP (F : SF) : Prop := ∀ (ps : List (Nat × PT)) (fl : Fl) (S : Store), (∀ p ∈ ps, okP p.1 = true ∧ good p.2 = true) → units (joinP (ps.map (·.2))) ≤ 5000 → deep (joinP (ps.map (·.2))) ≤ 60 →
  F [(.tup (pIs ps), fl)] S = .ok (pI 8 (joinP (ps.map (·.2))), .own) S
theorem row_sem {E : Sem} (b : PB E) (hp : PartsOk E.parts_of) : RowP (step E).i_Row := by
  intro ps fl S hps hu hd
  refine WR.eq ?_
  show WR (initF 10 8 (v_i_Row E) _ _) _
  unfold v_i_Row
  walk_at "ev"
  rw [isi_tup]
  walk_at "ev"
  have hU := units_join (ps.map (·.2))
  have hD := deep_join (ps.map (·.2))
  refine o_forP (fun n ρ S' => S' = S ∧ ∃ x5 x6 x7 x8 x9, ρ = [some (.ins 8 [], .own), some (.tup (pIs ps), lend fl), some (.lst (embs (joinL ((ps.take n).map (·.2)))), .sh), some (.int (unitsL (joinL ((ps.take n).map (·.2)))), .sh), some (.int (max 1 (deepL (joinL ((ps.take n).map (·.2)))) : Nat), .sh), x5, x6, x7, x8, x9]) ⟨rfl, none, none, none, none, none, rfl⟩ ?_ ?_
  · rintro n d ρ S' hn ⟨rfl, x5, x6, x7, x8, x9, rfl⟩
    obtain ⟨hnl, hnd⟩ := List.getElem?_eq_some_iff.mp hn
    have hnl' : n < ps.length := by simpa [pIs] using hnl
    have hd' : d = pI ps[n].1 ps[n].2 := by rw [← hnd]; simp [pIs]
    obtain ⟨ok, gd⟩ := hps ps[n] (List.getElem_mem hnl')
    have htk : (ps.take (n + 1)).map (·.2) = (ps.take n).map (·.2) ++ [ps[n].2] := by rw [List.take_succ_eq_append_getElem hnl', List.map_append]; rfl
    have hpre : unitsL (joinL ((ps.take (n + 1)).map (·.2))) ≤ unitsL (joinL (ps.map (·.2))) := by
      have : ps = ps.take (n + 1) ++ ps.drop (n + 1) := (List.take_append_drop _ _).symm
      conv => rhs; rw [this]
      rw [List.map_append, joinL_app, unitsL_app]
      omega
    rw [htk, joinL_snoc] at hpre ⊢
    generalize hts : joinL ((ps.take n).map (·.2)) = js at hpre ⊢
    generalize ps[n].2 = t at *
    generalize ps[n].1 = c at *
    subst hd'
    walk_at "ev"
    rw [np' b c t _ S' ok]
    walk_at "ev"
    refine ⟨ok, _, asg_held, ?_⟩
    walk_at "ev"
    rw [hp]
    walk_at "ev"
    have e1 := units_parts gd
    have e2 := deep_parts t
    have u1 := units1 t
    have rl := row_unitsL (js ++ partsP t)
    rw [unitsL_app] at hpre rl
    rw [List.length_append] at rl
    have el : (embs (partsP t)).length = (partsP t).length := by rw [embs_map, List.length_map]
    have el2 : (embs js).length = js.length := by rw [embs_map, List.length_map]
    have em : (if (deep t : Int) > ((max 1 (deepL js) : Nat) : Int) then (deep t : Int) else ((max 1 (deepL js) : Nat) : Int)) = ((max 1 (deepL (js ++ partsP t)) : Nat) : Int) := by
      rw [deepL_app]
      split <;> omega
    rw [el]
    simp only [List.length_replicate, em]
    unfold k_MOST_PARTS
    split
    · rename_i h1
      rw [if_pos (by omega)] at e1
      rw [show (unitsL js : Int) + (units t : Int) = ((unitsL (js ++ partsP t) : Nat) : Int) by rw [unitsL_app]; omega]
      walk_at "ev"
      rw [if_neg (by rw [unitsL_app]; omega)]
      rw [el2, if_pos (small (by omega))]
      walk_at "ev"
      rw [← embs_app]
      exact ⟨_, _, _, _, _, rfl⟩
    · rename_i h1
      rw [if_neg (by omega)] at e1
      rw [show (unitsL js : Int) + ((units t : Int) - 1) = ((unitsL (js ++ partsP t) : Nat) : Int) by rw [unitsL_app]; omega]
      walk_at "ev"
      rw [if_neg (by rw [unitsL_app]; omega)]
      rw [el2, if_pos (small (by omega))]
      walk_at "ev"
      rw [← embs_app]
      exact ⟨_, _, _, _, _, rfl⟩
  · rintro ρ S' ⟨rfl, x5, x6, x7, x8, x9, rfl⟩
    rw [show (pIs ps).length = ps.length by simp [pIs], List.take_length]
    generalize hjs : joinL (ps.map (·.2)) = js at *
    have hJ : joinP (ps.map (·.2)) = one1 js := by unfold joinP; rw [hjs]
    rw [hJ] at hu hd hU hD ⊢
    have el2 : (embs js).length = js.length := by rw [embs_map, List.length_map]
    walk_at "ev"
    rw [el2]
    split
    · rename_i h1
      match js, h1, hu, hd with
      | [t], _, hu, hd =>
        simp only [one1] at hu hd
        simp only [embs, one1, unitsL, deepL]
        walk_at "ev"
        have := good_deep1 t
        rw [b.sz _ _ _ _ _ _ _ (emb_leak t _) (by omega) (by omega) (by omega)]
        walk_at "ev"
        rw [show ((units t + 0 : Nat) : Int).toNat = units t by omega, show (((max 1 (max (deep t) 0)) : Nat) : Int) = (deep t : Int) by omega]
        exact ⟨⟨by decide, by decide⟩, rfl⟩
      | [], e, _, _ => simp at e
      | _ :: _ :: _, e, _, _ => simp at e; omega
    · rename_i h1
      have h2 : one1 js = .row js := by
        unfold one1
        split
        · simp at h1
        · rfl
      rw [h2] at hu hd ⊢
      simp only [units, deep] at hu hd
      rw [b.sz _ _ _ _ _ _ _ lk_tup (by omega) (by omega) (by omega)]
      walk_at "ev"
      rw [show ((unitsL js : Int) + 1).toNat = 1 + unitsL js by omega]
      exact ⟨⟨by decide, by decide⟩, rfl⟩
def AddP (F : SF) : Prop := ∀ (c1 c2 : Nat) (s t : PT) (f1 f2 : Fl) (S : Store), lend f1 = .sh → lend f2 = .sh → okP c1 = true → okP c2 = true → good s = true → good t = true → units (joinP [s, t]) ≤ 5000 → deep (joinP [s, t]) ≤ 60 →
  F [(pI c1 s, f1), (pI c2 t, f2)] S = .ok (pI 8 (joinP [s, t]), .own) S
theorem padd_sem {E : Sem} (b : PB E) (hr : RowP E.i_Row) : AddP (step E).padd := by
  intro c1 c2 s t f1 f2 S l1 l2 h1 h2 g1 g2 hu hd
  refine WR.eq ?_
  show WR (bodyF 2 (v_padd E) _ _) _
  unfold v_padd
  walk_at "ev"
  rw [np' b c2 t _ S h2]
  walk_at "ev"
  rw [l1, l2]
  walk_at "ev"
  have e := hr [(c1, s), (c2, t)] .sh S (by simp [h1, h2, g1, g2]) hu hd
  simp only [pIs, List.map_cons, List.map_nil] at e
  rw [e]
  walk_at "ev"
def MulP (F : SF) : Prop := ∀ (c1 : Nat) (s : PT) (k : Nat) (f1 f2 : Fl) (S : Store), lend f1 = .sh → okP c1 = true → good s = true → k ≤ 1000 → units (joinP (List.replicate k s)) ≤ 5000 → deep (joinP (List.replicate k s)) ≤ 60 →
  F [(pI c1 s, f1), (.int k, f2)] S = .ok (pI 8 (joinP (List.replicate k s)), .own) S
theorem pmul_sem {E : Sem} (b : PB E) (hr : RowP E.i_Row) : MulP (step E).pmul := by
  intro c1 s k f1 f2 S l1 h1 g1 hk hu hd
  refine WR.eq ?_
  show WR (bodyF 2 (v_pmul E) _ _) _
  unfold v_pmul k_MOST_TIMES
  walk_at "ev"
  rw [b.num]
  walk_at "ev"
  rw [if_pos (by omega), show decide ((k : Int) ≤ 1000) = true by simp; omega]
  walk_at "ev"
  rw [l1]
  walk_at "ev"
  rw [if_pos (by omega)]
  walk_at "ev"
  have e := hr (List.replicate k (c1, s)) .sh S (fun p hp => by rw [List.eq_of_mem_replicate hp]; exact ⟨h1, g1⟩) (by rw [List.map_replicate]; exact hu) (by rw [List.map_replicate]; exact hd)
  rw [List.map_replicate] at e
  rw [show (List.replicate (k : Int).toNat [pI c1 s]).flatten = pIs (List.replicate k (c1, s)) by
    rw [Int.toNat_natCast, pIs, List.map_replicate]
    clear e hu hd hk
    induction k with
    | zero => rfl
    | succ k ih => rw [List.replicate_succ, List.flatten_cons, ih]; rfl]
  rw [e]
  walk_at "ev"
end K25

set_option maxRecDepth 100000
set_option maxHeartbeats 2000000
namespace K25
open DL DE
local macro_rules | `(tactic| walk_at "ev") => `(tactic| try simp only [↓w_look, ↓w_opt_some, ↓w_cst, ↓w_nil, ↓w_cons, ↓w_tup, ↓w_lst, ↓w_T, ↓w_if, ↓DE.w_and, ↓DE.w_or, ↓w_not, ↓w_tand, ↓w_tor, ↓w_tnot, ↓w_op2, ↓w_op1, ↓w_opN, ↓w_b1, ↓w_b2, ↓w_chain, ↓w_call, ↓w_make, ↓w_prop, ↓w_own2, ↓w_fld, ↓w_lenO, ↓w_isi, ↓w_new, ↓w_noPart, ↓w_part, ↓w_sl, ↓w_seqI, ↓w_rng1, ↓w_lc, ↓w_lc0, ↓w_lc1, ↓w_dict0, ↓w_dict1, ↓w_dict, ↓w_get2, ↓w_join, ↓o_skip, ↓o_seq, ↓o_drop, ↓o_ret, ↓o_retN, ↓o_set, ↓o_own, ↓o_if, ↓o_asg, ↓o_par, ↓o_for, ↓o_for0, ↓o_forN, ↓o_put, ↓o_fldS, ↓w_body, ↓w_init, en0, self_eq, put_held, List.length_nil, ↓w_ok, ↓o_nx,
  lk_sh, lk_own, lk_int, lk_str, lk_tup, lk_bl, lk_non, lk_obj, all_nil, all_cons, v_int, v_bl, v_str, v_tup, v_lst, v_non, v_ins, v_dk, a_int, a_lst, a_tup, a_str, s_int, lt_int, le_int, gt_int, ge_int, m_lst, m_tup, len_tup, len_lst, ix_tup, ix_lst, at_0, at_1, at_2, at_3, q_str, q_int, nq_int, nq_bl, tupOf_lst, tupOf_tup, lstOf_lst, lstOf_tup, int_int, int_bl, max_int, min_int, asB_bl, asI_int, asIns_ins, two_eq, asDk_dk, key_str, key_int, Int.cast_ofNat_Int, Int.natCast_one, Int.natCast_zero, one_eq, rng1_eq, seqOf_own, seqOf_sh, seqOf_bor, seqOf_tup, seqOf_str, asObj_obj,
  look0, looks, look1_sh, look1_bor, look1_own, look1_lend, lend2, lend_sh, lend_own, lend_bor, lend_mine, en_nil, en_cons, wi_nil, wi_cons, List.set_cons_zero, List.set_cons_succ, List.replicate_zero, List.replicate_succ, List.append_nil, List.nil_append, List.cons_append, List.map_cons, List.map_nil, List.length_cons, List.length_nil, Nat.reduceAdd, Nat.reduceLeDiff, sz_le, sz_lt, Option.map_some, Option.map_none, Option.some.injEq, exists_eq_left', Bool.and_true, Bool.true_and, in2, in3, sl42, sl43, sl21, sl22, sl11, sl4h2, sl4h3, any_bls, all_bls, max_ints, String.reduceBEq, Bool.or_false, Bool.false_or, Bool.or_true, Bool.true_or, Bool.or_self, pI_view, pI_asIns, pI_fold, pI_leak, getHeld, hd0, hd1, hd2, emb_leak, Bool.not_true, Bool.not_false, and_self, true_and, and_true, if_true, if_false, decide_eq_true_eq, Bool.false_eq_true, reduceCtorEq, ite_true, ite_false])
/-! ### the law's own look at what is told -/
def LInsOk (F : SF) : Prop := ∀ (t : PT) (fl : Fl) (S : Store), F [(emb t, fl)] S = .ok (.lst (embs (insP t)), .own) S
theorem dict_if {z : Option RV} : optR ((getK (mergeD [] [(.str "if", .int 2), (.str "while", .int 3), (.str "forever", .int 1)]) (.str "if")).map fun d => (d, .sh)) z = some (.int 2, .sh) := by simp [mergeD, setK, getK_cons, deq, optR]
theorem dict_while {z : Option RV} : optR ((getK (mergeD [] [(.str "if", .int 2), (.str "while", .int 3), (.str "forever", .int 1)]) (.str "while")).map fun d => (d, .sh)) z = some (.int 3, .sh) := by simp [mergeD, setK, getK_cons, deq, optR]
theorem dict_forever {z : Option RV} : optR ((getK (mergeD [] [(.str "if", .int 2), (.str "while", .int 3), (.str "forever", .int 1)]) (.str "forever")).map fun d => (d, .sh)) z = some (.int 1, .sh) := by simp [mergeD, setK, getK_cons, deq, optR]
theorem dict_none {x : String} {z : Option RV} (h : x ≠ "if" ∧ x ≠ "while" ∧ x ≠ "forever") : optR ((getK (mergeD [] [(.str "if", .int 2), (.str "while", .int 3), (.str "forever", .int 1)]) (.str x)).map fun d => (d, .sh)) z = z := by
  obtain ⟨h1, h2, h3⟩ := h
  have e1 : ("if" == x) = false := by simpa using fun e => h1 e.symm
  have e2 : ("while" == x) = false := by simpa using fun e => h2 e.symm
  have e3 : ("forever" == x) = false := by simpa using fun e => h3 e.symm
  simp [mergeD, setK, getK_cons, deq, optR, e1, e2, e3, getK_nil]
theorem lins_sem (E : Sem) : LInsOk (step E).L_insides := by
  intro t fl S
  refine WR.eq ?_
  show WR (bodyF 2 (v_L_insides E) _ _) _
  unfold v_L_insides
  walk_at "ev"
  rw [ix0]
  walk_at "ev"
  rw [row_word]
  cases t with
  | row l =>
    simp only [isRow, if_true]
    rw [ix1_row]
    walk_at "ev"
    rfl
  | if_ x y z =>
    simp only [isRow, if_false, Bool.false_eq_true]
    simp only [emb, wordP]
    walk_at "ev"
    rw [dict_if]
    walk_at "ev"
    rfl
  | while_ x y z =>
    simp only [isRow, if_false, Bool.false_eq_true]
    simp only [emb, wordP]
    walk_at "ev"
    rw [dict_while]
    walk_at "ev"
    rfl
  | forever x =>
    simp only [isRow, if_false, Bool.false_eq_true]
    simp only [emb, wordP]
    walk_at "ev"
    rw [dict_forever]
    walk_at "ev"
    rfl
  | _ =>
    simp only [isRow, if_false, Bool.false_eq_true]
    simp only [emb, wordP]
    walk_at "ev"
    rw [dict_none (by decide)]
    walk_at "ev"
    rfl
/-! the joined row -/
def JoinOk (F : SF) : Prop := ∀ (ts : List PT) (fl : Fl) (S : Store), (∀ t ∈ ts, good t = true) → unitsL (joinL ts) ≤ 5000 → F [(.lst (embs ts), fl)] S = .ok (emb (joinP ts), .sh) S
theorem seqOf_lend {ds : List D} {fl : Fl} : seqOf (.lst ds, lend fl) = some ds := by cases fl <;> rfl
theorem join_sem (E : Sem) : JoinOk (step E).L_joined := by
  intro ts fl S hg hu
  refine WR.eq ?_
  show WR (bodyF 3 (v_L_joined E) _ _) _
  unfold v_L_joined
  walk_at "ev"
  rw [seqOf_lend]
  walk_at "ev"
  refine o_forP (fun n ρ S' => S' = S ∧ ∃ x2, ρ = [some (.lst (embs ts), lend fl), some (.lst (embs (joinL (ts.take n))), .sh), x2]) ⟨rfl, none, rfl⟩ ?_ ?_
  · rintro n d ρ S' hn ⟨rfl, x2, rfl⟩
    obtain ⟨hnl, hnd⟩ := List.getElem?_eq_some_iff.mp hn
    have hnl' : n < ts.length := by simpa [embs_map] using hnl
    have hd' : d = emb ts[n] := by rw [← hnd]; simp [embs_map]
    have gd := hg ts[n] (List.getElem_mem hnl')
    have htk : ts.take (n + 1) = ts.take n ++ [ts[n]] := List.take_succ_eq_append_getElem hnl'
    have hpre : unitsL (joinL (ts.take (n + 1))) ≤ unitsL (joinL ts) := by
      have : ts = ts.take (n + 1) ++ ts.drop (n + 1) := (List.take_append_drop _ _).symm
      conv => rhs; rw [this]
      rw [joinL_app, unitsL_app]
      omega
    rw [htk, joinL_snoc] at hpre ⊢
    generalize hjs : joinL (ts.take n) = js at hpre ⊢
    generalize ts[n] = t at *
    subst hd'
    have rl := row_unitsL (js ++ partsP t)
    rw [List.length_append] at rl
    have el2 : (embs js).length = js.length := by rw [embs_map, List.length_map]
    have el : (embs (partsP t)).length = (partsP t).length := by rw [embs_map, List.length_map]
    walk_at "ev"
    rw [ix0]
    walk_at "ev"
    rw [row_word]
    cases t with
    | row l =>
      simp only [isRow, if_true, partsP] at *
      rw [ix1_row]
      walk_at "ev"
      rw [el2, el, if_pos (small (by omega))]
      walk_at "ev"
      rw [embs_app]
      exact ⟨_, rfl⟩
    | _ =>
      simp only [isRow, if_false, Bool.false_eq_true, partsP, List.length_cons, List.length_nil] at *
      walk_at "ev"
      rw [el2, if_pos (small (by omega))]
      walk_at "ev"
      rw [embs_app]
      exact ⟨_, rfl⟩
  · rintro ρ S' ⟨rfl, x2, rfl⟩
    rw [show (embs ts).length = ts.length by rw [embs_map, List.length_map], List.take_length]
    unfold joinP
    generalize joinL ts = js at *
    have el2 : (embs js).length = js.length := by rw [embs_map, List.length_map]
    walk_at "ev"
    rw [el2]
    split
    · rename_i h1
      match js, h1 with
      | [t], _ =>
        simp only [embs, one1]
        walk_at "ev"
      | [], e => simp at e
      | _ :: _ :: _, e => simp at e; omega
    · rename_i h1
      have h2 : one1 js = .row js := by
        unfold one1
        split
        · simp at h1
        · rfl
      rw [h2]
      rfl
end K25

set_option maxRecDepth 100000
set_option maxHeartbeats 2000000
namespace K25
open DL DE
local macro_rules | `(tactic| walk_at "ev") => `(tactic| try simp only [↓w_look, ↓w_opt_some, ↓w_cst, ↓w_nil, ↓w_cons, ↓w_tup, ↓w_lst, ↓w_T, ↓w_if, ↓DE.w_and, ↓DE.w_or, ↓w_not, ↓w_tand, ↓w_tor, ↓w_tnot, ↓w_op2, ↓w_op1, ↓w_opN, ↓w_b1, ↓w_b2, ↓w_chain, ↓w_call, ↓w_make, ↓w_prop, ↓w_own2, ↓w_fld, ↓w_lenO, ↓w_isi, ↓w_new, ↓w_noPart, ↓w_part, ↓w_sl, ↓w_seqI, ↓w_rng1, ↓w_lc, ↓w_lc0, ↓w_lc1, ↓w_dict0, ↓w_dict1, ↓w_dict, ↓w_get2, ↓w_join, ↓o_skip, ↓o_seq, ↓o_drop, ↓o_ret, ↓o_retN, ↓o_set, ↓o_own, ↓o_if, ↓o_asg, ↓o_par, ↓o_for, ↓o_for0, ↓o_forN, ↓o_put, ↓o_fldS, ↓w_body, ↓w_init, en0, self_eq, put_held, List.length_nil, ↓w_ok, ↓o_nx,
  lk_sh, lk_own, lk_int, lk_str, lk_tup, lk_bl, lk_non, lk_obj, all_nil, all_cons, v_int, v_bl, v_str, v_tup, v_lst, v_non, v_ins, v_dk, a_int, a_lst, a_tup, a_str, s_int, lt_int, le_int, gt_int, ge_int, m_lst, m_tup, len_tup, len_lst, ix_tup, ix_lst, at_0, at_1, at_2, at_3, q_str, q_int, nq_int, nq_bl, tupOf_lst, tupOf_tup, lstOf_lst, lstOf_tup, int_int, int_bl, max_int, min_int, asB_bl, asI_int, asIns_ins, two_eq, asDk_dk, key_str, key_int, Int.cast_ofNat_Int, Int.natCast_one, Int.natCast_zero, one_eq, rng1_eq, seqOf_own, seqOf_sh, seqOf_bor, seqOf_tup, seqOf_str, asObj_obj,
  look0, looks, look1_sh, look1_bor, look1_own, look1_lend, lend2, lend_sh, lend_own, lend_bor, lend_mine, en_nil, en_cons, wi_nil, wi_cons, List.set_cons_zero, List.set_cons_succ, List.replicate_zero, List.replicate_succ, List.append_nil, List.nil_append, List.cons_append, List.map_cons, List.map_nil, List.length_cons, List.length_nil, Nat.reduceAdd, Nat.reduceLeDiff, sz_le, sz_lt, Option.map_some, Option.map_none, Option.some.injEq, exists_eq_left', Bool.and_true, Bool.true_and, in2, in3, sl42, sl43, sl21, sl22, sl11, sl4h2, sl4h3, any_bls, all_bls, max_ints, String.reduceBEq, Bool.or_false, Bool.false_or, Bool.or_true, Bool.true_or, Bool.or_self, pI_view, pI_asIns, pI_fold, pI_leak, getHeld, hd0, hd1, hd2, emb_leak, Bool.not_true, Bool.not_false, and_self, true_and, and_true, if_true, if_false, decide_eq_true_eq, Bool.false_eq_true, reduceCtorEq, ite_true, ite_false])
/-! ### built -/
def cls : PT → Nat
  | .do_ _ => 1
  | .ret _ => 2
  | .go _ => 3
  | .end_ => 4
  | .if_ _ _ _ => 5
  | .while_ _ _ _ => 6
  | .forever _ => 7
  | .row _ => 8
theorem cls_ok (t : PT) : okP (cls t) = true := by cases t <;> rfl
theorem word_ne {t : PT} (n : String) (h : wordP t ≠ n) : (wordP t == n) = false := by simpa using h
structure MkOk (E : Sem) : Prop where
  do_ : DoP E.i_Do
  ret : RetP E.i_Return
  go : GoP E.i_Go
  end_ : EndP E.i_End
  if_ : IfP E.i_If
  while_ : WhileP E.i_While
  forever : ForeverP E.i_Forever
  row : RowP E.i_Row
theorem joinL_flat : ∀ {l : List PT}, (∀ t ∈ l, isRow t = false) → joinL l = l
  | [], _ => rfl
  | t :: r, h => by
    have h1 := h t List.mem_cons_self
    have ih := joinL_flat (l := r) fun s hs => h s (List.mem_cons_of_mem _ hs)
    unfold joinL at ih ⊢
    rw [List.flatMap_cons, ih]
    cases t <;> first | rfl | cases h1
theorem one1_ne {l : List PT} (h : l.length ≠ 1) : one1 l = .row l := by
  unfold one1
  split
  · simp at h
  · rfl
theorem good_row {l : List PT} (h : good (.row l) = true) : (∀ t ∈ l, isRow t = false ∧ good t = true) ∧ joinP l = .row l := by
  simp only [good, Bool.and_eq_true, decide_eq_true_eq, goods_all, List.all_eq_true, Bool.not_eq_true'] at h
  refine ⟨h.2, ?_⟩
  unfold joinP
  rw [joinL_flat fun t ht => (h.2 t ht).1, one1_ne h.1]
def BuiltU (F : SF) (n : Nat) : Prop := ∀ (t : PT) (fl : Fl) (S : Store), hgt t ≤ n → good t = true → units t ≤ 5000 → deep t ≤ 60 → F [(emb t, fl)] S = .ok (pI (cls t) t, .own) S
theorem unitsL_mem : ∀ {l : List PT} {t : PT}, t ∈ l → units t ≤ unitsL l
  | s :: r, t, h => by
    simp only [unitsL]
    rcases List.mem_cons.mp h with rfl | h
    · omega
    · have := unitsL_mem h; omega
theorem deepL_mem : ∀ {l : List PT} {t : PT}, t ∈ l → deep t ≤ deepL l
  | s :: r, t, h => by
    simp only [deepL]
    rcases List.mem_cons.mp h with rfl | h
    · omega
    · have := deepL_mem h; omega
theorem ixT {l : List D} {j : Int} {a b : Fl} {S : Store} : oIdx (.tup l, a) (.int j, b) S = (L2.atI l j).map fun d => (d, .sh) := rfl
theorem built_sem {E : Sem} {n : Nat} (m : MkOk E) (hb : BuiltU E.L_built n) : BuiltU (step E).L_built (n + 1) := by
  intro t fl S hh hg hu hd
  refine WR.eq ?_
  show WR (bodyF 3 (v_L_built E) _ _) _
  unfold v_L_built
  walk_at "ev"
  rw [ix0]
  cases t with
  | do_ x =>
    simp only [emb, wordP, good] at *
    walk_at "ev"
    rw [m.do_ x _ S hg]
    walk_at "ev"
    rfl
  | ret x =>
    simp only [emb, wordP, good] at *
    walk_at "ev"
    rw [m.ret x _ S hg]
    walk_at "ev"
    rfl
  | go x =>
    simp only [emb, wordP, good] at *
    walk_at "ev"
    rw [m.go x _ S hg]
    walk_at "ev"
    rfl
  | end_ =>
    simp only [emb, wordP, good] at *
    walk_at "ev"
    rw [m.end_ S]
    walk_at "ev"
    rfl
  | if_ x y z =>
    have hg' := hg
    simp only [good, Bool.and_eq_true] at hg'
    have hu' := hu
    have hd' := hd
    simp only [units] at hu'
    simp only [deep] at hd'
    simp only [hgt] at hh
    simp only [emb, wordP]
    walk_at "ev"
    rw [hb y _ S (by omega) hg'.1.2 (by omega) (by omega)]
    walk_at "ev"
    rw [hb z _ S (by omega) hg'.2 (by omega) (by omega)]
    walk_at "ev"
    rw [m.if_ x _ _ y z _ _ _ S hg'.1.1 (cls_ok y) (cls_ok z) hu hd]
    walk_at "ev"
    rfl
  | while_ x w y =>
    have hg' := hg
    simp only [good, Bool.and_eq_true] at hg'
    have hu' := hu
    have hd' := hd
    simp only [units] at hu'
    simp only [deep] at hd'
    simp only [hgt] at hh
    simp only [emb, wordP]
    walk_at "ev"
    rw [hb y _ S (by omega) hg'.2 (by omega) (by omega)]
    walk_at "ev"
    rw [m.while_ x _ y w _ _ _ S hg'.1 (cls_ok y) hu hd]
    walk_at "ev"
    rfl
  | forever y =>
    have hg' := hg
    simp only [good, Bool.and_eq_true, Bool.not_eq_true'] at hg'
    have hu' := hu
    have hd' := hd
    simp only [units] at hu'
    simp only [deep] at hd'
    simp only [hgt] at hh
    simp only [emb, wordP]
    walk_at "ev"
    rw [hb y _ S (by omega) hg'.2 (by omega) (by omega)]
    walk_at "ev"
    rw [m.forever _ y _ S hg'.2 hg'.1 (cls_ok y) hu hd]
    walk_at "ev"
    rfl
  | row l =>
    obtain ⟨hg1, hg2⟩ := good_row hg
    have hu' := hu
    have hd' := hd
    simp only [units] at hu'
    simp only [deep] at hd'
    simp only [hgt] at hh
    simp only [emb, wordP]
    walk_at "ev"
    have rl := row_unitsL l
    refine ⟨by rw [embs_map, List.length_map]; exact lt_line (by omega), ?_⟩
    rw [embs_map, lc_map emb (fun t => pI (cls t) t) l fun s hs => ⟨.own, by
      have := hgtL_mem hs
      have := unitsL_mem hs
      have := deepL_mem hs
      refine WR.eq ?_
      walk_at "ev"
      rw [hb s _ S (by omega) (hg1 s hs).2 (by omega) (by omega)]
      walk_at "ev", rfl⟩]
    walk_at "ev"
    have e := m.row (l.map fun t => (cls t, t)) .sh S (fun p hp => by
      obtain ⟨t, ht, rfl⟩ := List.mem_map.mp hp
      exact ⟨cls_ok t, (hg1 t ht).2⟩)
    rw [show (l.map fun t => (cls t, t)).map (·.2) = l by rw [List.map_map]; exact List.map_id l, hg2] at e
    have e := e hu hd
    rw [show pIs (l.map fun t => (cls t, t)) = l.map fun t => pI (cls t) t by simp [pIs, Function.comp]] at e
    rw [e]
    walk_at "ev"
    rfl
end K25

set_option maxRecDepth 100000
set_option maxHeartbeats 2000000
namespace K25
open DL DE
local macro_rules | `(tactic| walk_at "ev") => `(tactic| try simp only [↓w_look, ↓w_opt_some, ↓w_cst, ↓w_nil, ↓w_cons, ↓w_tup, ↓w_lst, ↓w_T, ↓w_if, ↓DE.w_and, ↓DE.w_or, ↓w_not, ↓w_tand, ↓w_tor, ↓w_tnot, ↓w_op2, ↓w_op1, ↓w_opN, ↓w_b1, ↓w_b2, ↓w_chain, ↓w_call, ↓w_make, ↓w_prop, ↓w_own2, ↓w_fld, ↓w_lenO, ↓w_isi, ↓w_new, ↓w_noPart, ↓w_part, ↓w_sl, ↓w_seqI, ↓w_rng1, ↓w_lc, ↓w_lc0, ↓w_lc1, ↓w_dict0, ↓w_dict1, ↓w_dict, ↓w_get2, ↓w_join, ↓o_skip, ↓o_seq, ↓o_drop, ↓o_ret, ↓o_retN, ↓o_set, ↓o_own, ↓o_if, ↓o_asg, ↓o_par, ↓o_for, ↓o_for0, ↓o_forN, ↓o_put, ↓o_fldS, ↓w_body, ↓w_init, en0, self_eq, put_held, List.length_nil, ↓w_ok, ↓o_nx,
  lk_sh, lk_own, lk_int, lk_str, lk_tup, lk_bl, lk_non, lk_obj, all_nil, all_cons, v_int, v_bl, v_str, v_tup, v_lst, v_non, v_ins, v_dk, a_int, a_lst, a_tup, a_str, s_int, lt_int, le_int, gt_int, ge_int, m_lst, m_tup, len_tup, len_lst, ix_tup, ix_lst, at_0, at_1, at_2, at_3, q_str, q_int, nq_int, nq_bl, tupOf_lst, tupOf_tup, lstOf_lst, lstOf_tup, int_int, int_bl, max_int, min_int, asB_bl, asI_int, asIns_ins, two_eq, asDk_dk, key_str, key_int, Int.cast_ofNat_Int, Int.natCast_one, Int.natCast_zero, one_eq, rng1_eq, seqOf_own, seqOf_sh, seqOf_bor, seqOf_tup, seqOf_str, asObj_obj,
  look0, looks, look1_sh, look1_bor, look1_own, look1_lend, lend2, lend_ret, lend_sh, lend_own, lend_bor, lend_mine, en_nil, en_cons, wi_nil, wi_cons, List.set_cons_zero, List.set_cons_succ, List.replicate_zero, List.replicate_succ, List.append_nil, List.nil_append, List.cons_append, List.map_cons, List.map_nil, List.length_cons, List.length_nil, Nat.reduceAdd, Nat.reduceLeDiff, sz_le, sz_lt, Option.map_some, Option.map_none, Option.some.injEq, exists_eq_left', Bool.and_true, Bool.true_and, in2, in3, sl42, sl43, sl21, sl22, sl11, sl4h2, sl4h3, any_bls, all_bls, max_ints, String.reduceBEq, Bool.or_false, Bool.false_or, Bool.or_true, Bool.true_or, Bool.or_self, pI_view, pI_asIns, pI_fold, pI_leak, getHeld, hd0, hd1, hd2, emb_leak, Bool.not_true, Bool.not_false, and_self, true_and, and_true, if_true, if_false, decide_eq_true_eq, Bool.false_eq_true, reduceCtorEq, ite_true, ite_false])
/-! ### repr of what is told -/
mutual
theorem show_emb : ∀ t : PT, (py (emb t)).showable = true
  | .do_ _ | .ret _ | .go _ | .end_ => by simp [emb, py, pys, PySem.PyData.showable, PySem.PyData.showableAll]
  | .if_ _ y z => by simp [emb, py, pys, PySem.PyData.showable, PySem.PyData.showableAll, show_emb y, show_emb z]
  | .while_ _ _ b => by simp [emb, py, pys, PySem.PyData.showable, PySem.PyData.showableAll, show_emb b]
  | .forever b => by simp [emb, py, pys, PySem.PyData.showable, PySem.PyData.showableAll, show_emb b]
  | .row l => by simp [emb, py, pys, PySem.PyData.showable, PySem.PyData.showableAll, show_embs l]
theorem show_embs : ∀ l : List PT, PySem.PyData.showableAll (pys (embs l)) = true
  | [] => rfl
  | t :: r => by simp [embs, pys, PySem.PyData.showableAll, show_emb t, show_embs r]
end
mutual
theorem len_emb : ∀ t : PT, good t = true → lenB (emb t) + 2 ≤ 200 * units t
  | .do_ x, h | .ret x, h | .go x, h => by
    have := nameB_len (by simpa [good] using h)
    simp only [emb, lenB, lensB, units]
    have h1 : ("do" : String).length = 2 := rfl
    have h2 : ("return" : String).length = 6 := rfl
    have h3 : ("go" : String).length = 2 := rfl
    omega
  | .end_, _ => by
    simp only [emb, lenB, lensB, units]
    have h1 : ("end" : String).length = 3 := rfl
    omega
  | .if_ x y z, h => by
    simp only [good, Bool.and_eq_true] at h
    have := nameB_len h.1.1
    have a := len_emb y h.1.2
    have b := len_emb z h.2
    simp only [emb, lenB, lensB, units]
    have h1 : ("if" : String).length = 2 := rfl
    omega
  | .while_ x _ y, h => by
    simp only [good, Bool.and_eq_true] at h
    have := nameB_len h.1
    have a := len_emb y h.2
    simp only [emb, lenB, lensB, units]
    have h1 : ("while" : String).length = 5 := rfl
    omega
  | .forever y, h => by
    simp only [good, Bool.and_eq_true] at h
    have a := len_emb y h.2
    simp only [emb, lenB, lensB, units]
    have h1 : ("forever" : String).length = 7 := rfl
    omega
  | .row l, h => by
    simp only [good, Bool.and_eq_true] at h
    have a := lens_emb l h.2
    simp only [emb, lenB, lensB, units]
    have h1 : ("row" : String).length = 3 := rfl
    omega
theorem lens_emb : ∀ l : List PT, goods l = true → lensB (embs l) ≤ 200 * unitsL l
  | [], _ => by simp [embs, lensB]
  | t :: r, h => by
    simp only [goods, Bool.and_eq_true] at h
    have a := len_emb t h.1.2
    have b := lens_emb r h.2
    simp only [embs, lensB, unitsL]
    omega
end
theorem repr_emb {t : PT} (h : good t = true) (hu : units t ≤ 5000) (hd : deep t ≤ 30) : ∃ y : String, ∀ fl S, oRepr (emb t, fl) S = some (.str y, .sh) := by
  have a := len_emb t h
  have b := (dep_emb t h).1
  obtain ⟨y, _, e⟩ := repr_ok (plain_emb t) (show_emb t) (by omega) (by omega)
  exact ⟨y, e⟩

theorem q_same {y : String} {a b : Fl} {S : Store} : oEq (.str y, a) (.str y, b) S = some (.bl true, .sh) := by rw [q_str]; simp
theorem nq_same {y : String} {a b : Fl} {S : Store} : oNe (.str y, a) (.str y, b) S = some (.bl false, .sh) := by simp [oNe, view, plain, dep, deq]
end K25

set_option maxRecDepth 100000
set_option maxHeartbeats 2000000
namespace K25
open DL DE
local macro_rules | `(tactic| walk_at "ev") => `(tactic| try simp only [↓w_look, ↓w_opt_some, ↓w_cst, ↓w_nil, ↓w_cons, ↓w_tup, ↓w_lst, ↓w_T, ↓w_if, ↓DE.w_and, ↓DE.w_or, ↓w_not, ↓w_tand, ↓w_tor, ↓w_tnot, ↓w_op2, ↓w_op1, ↓w_opN, ↓w_b1, ↓w_b2, ↓w_chain, ↓w_call, ↓w_make, ↓w_prop, ↓w_own2, ↓w_fld, ↓w_lenO, ↓w_isi, ↓w_new, ↓w_noPart, ↓w_part, ↓w_sl, ↓w_seqI, ↓w_rng1, ↓w_lc, ↓w_lc0, ↓w_lc1, ↓w_dict0, ↓w_dict1, ↓w_dict, ↓w_get2, ↓w_join, ↓o_skip, ↓o_seq, ↓o_drop, ↓o_ret, ↓o_retN, ↓o_set, ↓o_own, ↓o_if, ↓o_asg, ↓o_par, ↓o_for, ↓o_for0, ↓o_forN, ↓o_put, ↓o_fldS, ↓w_body, ↓w_init, en0, self_eq, put_held, List.length_nil, ↓w_ok, ↓o_nx,
  lk_sh, lk_own, lk_int, lk_str, lk_tup, lk_bl, lk_non, lk_obj, all_nil, all_cons, v_int, v_bl, v_str, v_tup, v_lst, v_non, v_ins, v_dk, a_int, a_lst, a_tup, a_str, s_int, lt_int, le_int, gt_int, ge_int, m_lst, m_tup, len_tup, len_lst, ix_tup, ix_lst, at_0, at_1, at_2, at_3, q_str, q_int, nq_int, nq_bl, tupOf_lst, tupOf_tup, lstOf_lst, lstOf_tup, int_int, int_bl, max_int, min_int, asB_bl, asI_int, asIns_ins, two_eq, asDk_dk, key_str, key_int, Int.cast_ofNat_Int, Int.natCast_one, Int.natCast_zero, one_eq, rng1_eq, seqOf_own, seqOf_sh, seqOf_bor, seqOf_tup, seqOf_str, asObj_obj,
  look0, looks, look1_sh, look1_bor, look1_own, look1_lend, lend2, lend_ret, lend_sh, lend_own, lend_bor, lend_mine, en_nil, en_cons, wi_nil, wi_cons, List.set_cons_zero, List.set_cons_succ, List.replicate_zero, List.replicate_succ, List.append_nil, List.nil_append, List.cons_append, List.map_cons, List.map_nil, List.length_cons, List.length_nil, Nat.reduceAdd, Nat.reduceLeDiff, sz_le, sz_lt, Option.map_some, Option.map_none, Option.some.injEq, exists_eq_left', Bool.and_true, Bool.true_and, in2, in3, sl42, sl43, sl21, sl22, sl11, sl4h2, sl4h3, any_bls, all_bls, max_ints, String.reduceBEq, Bool.or_false, Bool.false_or, Bool.or_true, Bool.true_or, Bool.or_self, pI_view, pI_asIns, pI_fold, pI_leak, getHeld, hd0, hd1, hd2, emb_leak, Bool.not_true, Bool.not_false, and_self, true_and, and_true, if_true, if_false, decide_eq_true_eq, Bool.false_eq_true, reduceCtorEq, ite_true, ite_false])
/-! ### begin, rounds, kit -/
theorem lc_filter {i : Nat} {c : DL.ST} {f : SE} {ρ : Loc} {S : Store} (k : D → Bool) (g : D → D) : ∀ (ds : List D), (∀ d ∈ ds, c (ρ.set i (some (d, .sh))) S = .ok (k d) S ∧ ∃ fl, f (ρ.set i (some (d, .sh))) S = .ok (g d, fl) S ∧ leakOk (g d, fl) = true) → lcI (gNm i) c f ρ ds S = .ok ((ds.filter k).map g) S
  | [], _ => rfl
  | d :: ds, h => by
    obtain ⟨h1, fl, h2, h3⟩ := h d List.mem_cons_self
    have ih := lc_filter k g ds fun b hb => h b (List.mem_cons_of_mem _ hb)
    rw [lcI]
    simp only [gNm, h1, R.go]
    by_cases hk : k d = true
    · rw [if_pos hk]
      simp only [h2, R.go, h3, if_true, ih, List.filter_cons, hk, List.map_cons]
    · rw [if_neg hk, ih]
      simp [List.filter_cons, hk]
theorem p18 {a b : Fl} {S : Store} : oPow (.int 10, a) (.int 18, b) S = some (.int (10 ^ 18), .sh) := oPow_eq (n := 18) (by decide) (by decide)
def isBig (d : D) : Bool := match d with
  | .int i => decide ((10 : Int) ^ 18 ≤ i)
  | _ => false
def cutBig (d : D) : D := match d with
  | .int i => .int (i - 10 ^ 18)
  | d => d
theorem merge_st {x y z u : D} : mergeD [] [(.str "large", x), (.str "cells", y), (.str "rest", z), (.str "turn", u)] = [(.str "large", x), (.str "cells", y), (.str "rest", z), (.str "turn", u)] := by simp [mergeD, setK, deq]
theorem merge_kit {x y z : D} : mergeD [] [(.str "names", x), (.str "left", y), (.str "gos", z)] = [(.str "names", x), (.str "left", y), (.str "gos", z)] := by simp [mergeD, setK, deq]
theorem seqOf_frl {ds : List D} {fl : Fl} : seqOf (.frl ds, fl) = some ds := rfl
theorem len_frl {ds : List D} {fl : Fl} {S : Store} : oLen (.frl ds, fl) S = some (.int ds.length, .sh) := rfl
def BeginOk (F : SF) : Prop := ∀ (xs : List Int) (fl : Fl), xs.length ≤ 1000 → WR (F [(.frl (xs.map D.int), fl)] []) fun r S' => r = (.obj 1, .sh) ∧ St S' [] 0
theorem begin_sem (E : Sem) : BeginOk (step E).L_begin := by
  intro xs fl hl
  show WR (bodyF 3 (v_L_begin E) _ _) _
  unfold v_L_begin
  walk_at "ev"
  rw [seqOf_frl]
  walk_at "ev"
  refine ⟨by rw [List.length_map]; exact lt_line (by omega), ?_⟩
  rw [lc_map D.int (fun i => .int (if i < 0 then -i else i)) xs fun i _ => ⟨.sh, by refine WR.eq ?_; walk_at "ev"; exact ⟨rfl, rfl⟩, lk_int⟩]
  rw [show (xs.map fun i => D.int (if i < 0 then -i else i)) = (xs.map fun i => if i < 0 then -i else i).map D.int by simp]
  generalize hcs : (xs.map fun i => if i < 0 then -i else i) = cs
  have hcl : cs.length = xs.length := by rw [← hcs, List.length_map]
  walk_at "ev"
  refine ⟨by rw [List.length_map]; exact lt_line (by omega), ?_⟩
  rw [lc_filter isBig cutBig (cs.map D.int) fun d hd => by
    obtain ⟨i, _, rfl⟩ := List.mem_map.mp hd
    refine ⟨WR.eq ?_, .sh, WR.eq ?_, lk_int⟩
    · walk_at "ev"
      rw [p18]
      walk_at "ev"
      rfl
    · walk_at "ev"
      rw [p18]
      walk_at "ev"
      rfl]
  walk_at "ev"
  rw [merge_st]
  have big : ∀ ks : List Int, ((ks.map D.int).filter isBig).map cutBig = ((ks.filter fun i => decide ((10 : Int) ^ 18 ≤ i)).map fun i => i - 10 ^ 18).map D.int := by
    intro ks
    induction ks with
    | nil => rfl
    | cons k r ih =>
      by_cases h : (10 : Int) ^ 18 ≤ k
      · rw [List.map_cons, List.filter_cons, if_pos (show isBig (.int k) = true from decide_eq_true h), List.map_cons, ih, List.filter_cons, if_pos (decide_eq_true h)]
        rfl
      · rw [List.map_cons, List.filter_cons, if_neg (show ¬ isBig (.int k) = true from fun q => h (of_decide_eq_true q)), ih, List.filter_cons, if_neg (fun q => h (of_decide_eq_true q))]
  rw [big]
  refine ⟨_, cs, 0, 0, rfl, ⟨fun x hx => ?_, ?_, by decide, by decide, by decide⟩⟩
  · obtain ⟨i, hi, rfl⟩ := List.mem_map.mp hx
    have := (List.mem_filter.mp hi).2
    simp only [decide_eq_true_eq] at this
    omega
  · rw [List.length_map]
    have := List.length_filter_le (fun i => decide ((10 : Int) ^ 18 ≤ i)) cs
    omega
def RoundsOk (F : SF) : Prop := ∀ (xs : List Int) (fl f1 f2 : Fl) (S : Store), xs.length ≤ 1000 → ∃ k : Nat, k ≤ 10 ∧ F [(.frl (xs.map D.int), fl), (.int 4, f1), (.int 10, f2)] S = .ok (.int k, .sh) S
theorem rounds_sem (E : Sem) : RoundsOk (step E).L_rounds := by
  intro xs fl f1 f2 S hl
  refine ⟨4 + min 6 xs.length, by omega, WR.eq ?_⟩
  show WR (bodyF 3 (v_L_rounds E) _ _) _
  unfold v_L_rounds
  walk_at "ev"
  rw [len_frl]
  walk_at "ev"
  rw [List.length_map, show (4 : Int) + (if (xs.length : Int) < 10 - 4 then (xs.length : Int) else 10 - 4) = ((4 + min 6 xs.length : Nat) : Int) by split <;> omega]
def NameW (F : SF) : Prop := ∀ (S X : Store) (T : Int) (fl : Fl), St S X T → T + 20 < lim → WR (F [(.obj 1, lend fl)] S) fun r S' => ∃ x, r = (.str x, .sh) ∧ nameB x = true ∧ St S' X (T + 20)
theorem NameW.of {F : SF} (h : NameF F) : NameW F := fun S X T fl hS hT => by
  obtain ⟨x, S', a, b, e⟩ := h S X T (lend fl) (lend_any fl) hS hT
  exact .of e ⟨x, rfl, a, b⟩
def KitU (F : SF) : Prop := ∀ (S X : Store) (T : Int) (fl f1 f2 : Fl), St S X T → T + 81 < lim → WR (F [(.obj 1, lend fl), (.int 40, f1), (.lst [.str "m"], f2)] S) fun r S' => ∃ names, KitOk names ∧ r = (.obj (2 + X.length), .sh) ∧ St S' (X ++ [kitD names 40]) (T + 81)
theorem st_len {S X : Store} {T : Int} (h : St S X T) : S.length = 2 + X.length := by
  obtain ⟨ls, cells, rest, turn, e, _⟩ := h
  subst e
  simp [stS]; omega
theorem st_app {S X : Store} {T : Int} {d : D} (h : St S X T) : St (S ++ [d]) (X ++ [d]) T := by
  obtain ⟨ls, cells, rest, turn, e, o⟩ := h
  subst e
  exact ⟨ls, cells, rest, turn, rfl, o⟩
theorem kit_sem {E : Sem} (hd : DrawW E.L_draw) (hn : NameW E.L_name) : KitU (step E).L_kit := by
  intro S X T fl f1 f2 hS hT
  unfold lim at hT
  show WR (bodyF 5 (v_L_kit E) _ _) _
  unfold v_L_kit
  walk_at "ev"
  refine (hd S X T 3 fl hS (by unfold lim; omega) (by decide) (by decide)).mono ?_
  rintro _ S1 ⟨k, rfl, k0, k1, hS1⟩
  walk_at "ev"
  refine ⟨by omega, by rw [rng_len]; exact lt_line (by omega), ?_⟩
  refine (w_lcP (fun acc S' => ∃ names : List String, acc = names.map D.str ∧ (∀ x ∈ names, nameB x = true) ∧ St S' X (T + 1 + 20 * acc.length)) ⟨[], rfl, by simp, by simpa using hS1⟩ ?_).mono ?_
  · rintro acc d S2 hacc ⟨names, rfl, hn1, hS2⟩
    have hlt := (List.getElem?_eq_some_iff.mp hacc).1
    rw [rng_len] at hlt
    walk_at "ev"
    refine (hn S2 X _ fl hS2 (by unfold lim; omega)).mono ?_
    rintro _ S3 ⟨x, rfl, hx, hS3⟩
    refine ⟨rfl, names ++ [x], by simp, ?_, ?_⟩
    · intro y hy
      rcases List.mem_append.mp hy with hy | hy
      · exact hn1 y hy
      · simp at hy; subst hy; exact hx
    · refine hS3.more ?_
      simp only [List.length_append, List.length_cons, List.length_nil]
      omega
  · rintro acc S2 ⟨hl, names, rfl, hn1, hS2⟩
    rw [rng_len] at hl
    rw [List.length_map] at hl hS2
    walk_at "ev"
    rw [merge_kit, st_len hS2]
    refine ⟨names, ⟨by omega, by omega, hn1⟩, rfl, ?_⟩
    exact (st_app (d := kitD names 40) hS2).more (by omega)
end K25

set_option maxRecDepth 100000
set_option maxHeartbeats 2000000
namespace DE
open DL
theorem in4 {x p q r t : String} {a b : Fl} {S : Store} : oIn (.str x, a) (.tup [.str p, .str q, .str r, .str t], b) S = some (.bl (p == x || (q == x || (r == x || t == x))), .sh) := by simp [oIn, oInG, view, inSeq, plain, plains, dep, memD, deq, Bool.or_assoc]
theorem cut21h {α : Type} {x y : α} : cutD [x, y] none (some 1) = [x] := rfl
theorem nq_str {x y : String} {a b : Fl} {S : Store} : oNe (.str x, a) (.str y, b) S = some (.bl (!(x == y)), .sh) := by simp [oNe, view, plain, dep, deq]
theorem nin2 {x p q : String} {a b : Fl} {S : Store} : oNotIn (.str x, a) (.tup [.str p, .str q], b) S = some (.bl (!(p == x || q == x)), .sh) := by simp [oNotIn, oInG, view, inSeq, plain, plains, dep, memD, deq]
section
variable {ρ : Loc} {S : Store} {Q : RV → Store → Prop}
theorem sum_ints {l : List Int} {a : Fl} {S : Store} : oSum (.lst (l.map D.int), a) S = some (.int l.sum, .sh) := by
  simp [oSum, intsOf, view, lstOf, intsD_map]
theorem w_ans {t : R RV} : WR (match t with
      | .ok r S3 => .ok r S3
      | _ => .bad) Q = WR t Q := by cases t <;> rfl
theorem w_eqO {F : SF} {okc : Nat → Bool} {okt : String → Bool} {f u : SE} : WR (sEqO F okc okt f u ρ S) Q = WR (f ρ S) fun a S1 => WR (u ρ S1) fun b S2 => ∃ p, asIns a.1 = some p ∧ (okc p.1 = true ∧ okD okc okt (view S2 b.1) = true) ∧ WR (F [(a.1, lend a.2), (b.1, lend b.2)] S2) Q := by
  unfold sEqO
  simp only [w_bind]
  refine congrArg (WR _) (funext fun a => funext fun S1 => ?_)
  refine congrArg (WR _) (funext fun b => funext fun S2 => ?_)
  cases e : a.1 with
  | ins c fs =>
    simp only [w_iteB, asIns, Option.some.injEq, exists_eq_left']
    exact congrArg (And _) w_ans
  | _ => simp [asIns, w_bad]
def notR : RV → Option RV
  | (.bl k, _) => some (.bl (!k), .sh)
  | _ => none
theorem w_not2 {t : R RV} : WR (match t with
      | .ok (.bl k, _) S3 => .ok (.bl (!k), .sh) S3
      | _ => .bad) Q = WR t fun r S' => ∃ q, notR r = some q ∧ Q q S' := by
  cases t with
  | ok r S' =>
    obtain ⟨d, fl⟩ := r
    cases d with
    | bl k =>
      show Q (.bl (!k), .sh) S' = ∃ q, some (.bl (!k), .sh) = some q ∧ Q q S'
      simp only [Option.some.injEq, exists_eq_left']
    | _ => simp [notR, w_bad, w_ok]
  | _ => rfl
theorem w_neO {F : SF} {okc : Nat → Bool} {okt : String → Bool} {f u : SE} : WR (sNeO F okc okt f u ρ S) Q = WR (f ρ S) fun a S1 => WR (u ρ S1) fun b S2 => ∃ p, asIns a.1 = some p ∧ (okc p.1 = true ∧ okD okc okt (view S2 b.1) = true) ∧ WR (F [(a.1, lend a.2), (b.1, lend b.2)] S2) fun r S' => ∃ q, notR r = some q ∧ Q q S' := by
  unfold sNeO
  simp only [w_bind]
  refine congrArg (WR _) (funext fun a => funext fun S1 => ?_)
  refine congrArg (WR _) (funext fun b => funext fun S2 => ?_)
  cases e : a.1 with
  | ins c fs =>
    simp only [w_iteB, asIns, Option.some.injEq, exists_eq_left']
    exact congrArg (And _) w_not2
  | _ => simp [asIns, w_bad]
theorem notR_bl {k : Bool} {fl : Fl} : notR (.bl k, fl) = some (.bl (!k), .sh) := rfl
theorem w_dictE : WR (sDict0 ρ S) Q = Q (.dk [], .own) S := rfl
def asLst (d : D) : Option (List D) := match d with
  | .lst ds => some ds
  | _ => none
theorem asLst_lst {ds : List D} : asLst (.lst ds) = some ds := rfl
theorem w_appO {f : SE} {fs : SA} : WR (sAppO f fs ρ S) Q = WR (f ρ S) fun o S1 => ∃ n, asObj o.1 = some n ∧ (∃ l0, (S1[n]?).bind asLst = some l0) ∧ WR (fs ρ S1) fun is S2 => ∃ r, one is = some r ∧ ∃ ds, (S2[n]?).bind asLst = some ds ∧ (leakOk r = true ∧ ds.length < PySem.sizeLine) ∧ Q (.non, .sh) (S2.set n (.lst (ds ++ [r.1]))) := by
  unfold sAppO
  simp only [w_bind]
  refine congrArg (WR _) (funext fun o => funext fun S1 => ?_)
  cases e : o.1 with
  | obj n =>
    simp only [asObj, Option.some.injEq, exists_eq_left']
    cases e1 : S1[n]? with
    | none => simp [w_bad]
    | some d =>
      cases d with
      | lst l0 =>
        simp only [w_bind, Option.bind_some, asLst, Option.some.injEq, exists_eq', true_and]
        refine congrArg (WR _) (funext fun is => funext fun S2 => ?_)
        match is with
        | [] => simp [one, w_bad]
        | [r] =>
          simp only [one, Option.some.injEq, exists_eq_left']
          cases e2 : S2[n]? with
          | none => simp [w_bad]
          | some d =>
            cases d with
            | lst ds =>
              simp only [Option.bind_some, asLst, Option.some.injEq, exists_eq_left', w_iteB]
              rfl
            | _ => simp [w_bad, asLst]
        | _ :: _ :: _ => simp [one, w_bad]
      | _ => simp [w_bad, asLst]
  | _ => simp [asObj, w_bad]
end
end DE

set_option maxRecDepth 100000
set_option maxHeartbeats 2000000
namespace K25
open DL DE
/-! ### rows opened -/
mutual
def norm : PT → PT
  | .do_ n => .do_ n
  | .ret n => .ret n
  | .go n => .go n
  | .end_ => .end_
  | .if_ n y z => .if_ n (norm y) (norm z)
  | .while_ n w b => .while_ n w (norm b)
  | .forever b => .forever (norm b)
  | .row l => joinP (norms l)
def norms : List PT → List PT
  | [] => []
  | t :: r => norm t :: norms r
end
mutual
def wf : PT → Bool
  | .do_ n => nameB n
  | .ret n => nameB n
  | .go n => nameB n
  | .end_ => true
  | .if_ n y z => nameB n && wf y && wf z
  | .while_ n _ b => nameB n && wf b
  | .forever b => !isNil (norm b) && wf b
  | .row l => wfs l
def wfs : List PT → Bool
  | [] => true
  | t :: r => wf t && wfs r
end
theorem norms_map : ∀ l : List PT, norms l = l.map norm
  | [] => rfl
  | t :: r => by rw [norms, List.map_cons, norms_map r]
theorem wfs_all : ∀ l : List PT, wfs l = l.all wf
  | [] => rfl
  | t :: r => by rw [wfs, List.all_cons, wfs_all r]
theorem goods_app (l k : List PT) : goods (l ++ k) = (goods l && goods k) := by simp only [goods_all, List.all_append]
theorem goods_parts {t : PT} (g : good t = true) : goods (partsP t) = true := by
  cases t with
  | row l =>
    simp only [good, Bool.and_eq_true] at g
    exact g.2
  | _ => simp only [partsP, goods, isRow, Bool.not_false, Bool.true_and, Bool.and_true]; exact g
theorem good_one {l : List PT} (h : goods l = true) : good (one1 l) = true := by
  unfold one1
  split
  · simp only [goods, Bool.and_eq_true] at h
    exact h.1.2
  · rename_i hn
    simp only [good, Bool.and_eq_true, decide_eq_true_eq]
    refine ⟨fun e => ?_, h⟩
    match l, e, hn with
    | [t], _, hn => exact hn t rfl
theorem goods_join : ∀ {l : List PT}, (∀ t ∈ l, good t = true) → goods (joinL l) = true
  | [], _ => rfl
  | t :: r, h => by
    have ih := goods_join (l := r) fun s hs => h s (List.mem_cons_of_mem _ hs)
    show goods (partsP t ++ joinL r) = true
    rw [goods_app, goods_parts (h t List.mem_cons_self), ih]
    rfl
theorem good_joinP {l : List PT} (h : ∀ t ∈ l, good t = true) : good (joinP l) = true := good_one (goods_join h)
mutual
theorem good_norm : ∀ t : PT, wf t = true → good (norm t) = true
  | .do_ n, h | .ret n, h | .go n, h => h
  | .end_, _ => rfl
  | .if_ n y z, h => by
    simp only [wf, Bool.and_eq_true] at h
    simp only [norm, good, h.1.1, good_norm y h.1.2, good_norm z h.2, Bool.and_self]
  | .while_ n w b, h => by
    simp only [wf, Bool.and_eq_true] at h
    simp only [norm, good, h.1, good_norm b h.2, Bool.and_self]
  | .forever b, h => by
    simp only [wf, Bool.and_eq_true] at h
    simp only [norm, good, h.1, good_norm b h.2, Bool.and_self]
  | .row l, h => good_joinP (good_norms l h)
theorem good_norms : ∀ l : List PT, wfs l = true → ∀ t ∈ norms l, good t = true
  | [], _, _, q => by cases q
  | s :: r, h, t, q => by
    simp only [wfs, Bool.and_eq_true] at h
    rcases List.mem_cons.mp q with rfl | q
    · exact good_norm s h.1
    · exact good_norms r h.2 t q
end
mutual
theorem norm_good : ∀ t : PT, good t = true → norm t = t
  | .do_ n, _ | .ret n, _ | .go n, _ | .end_, _ => rfl
  | .if_ n y z, h => by
    simp only [good, Bool.and_eq_true] at h
    rw [norm, norm_good y h.1.2, norm_good z h.2]
  | .while_ n w b, h => by
    simp only [good, Bool.and_eq_true] at h
    rw [norm, norm_good b h.2]
  | .forever b, h => by
    simp only [good, Bool.and_eq_true] at h
    rw [norm, norm_good b h.2]
  | .row l, h => by
    have g := h
    simp only [good, Bool.and_eq_true] at h
    rw [norm, norms_good l h.2]
    exact (good_row g).2
theorem norms_good : ∀ l : List PT, goods l = true → norms l = l
  | [], _ => rfl
  | t :: r, h => by
    simp only [goods, Bool.and_eq_true] at h
    rw [norms, norm_good t h.1.2, norms_good r h.2]
end
mutual
theorem wf_good : ∀ t : PT, good t = true → wf t = true
  | .do_ n, h | .ret n, h | .go n, h => h
  | .end_, _ => rfl
  | .if_ n y z, h => by
    simp only [good, Bool.and_eq_true] at h
    simp only [wf, h.1.1, wf_good y h.1.2, wf_good z h.2, Bool.and_self]
  | .while_ n w b, h => by
    simp only [good, Bool.and_eq_true] at h
    simp only [wf, h.1, wf_good b h.2, Bool.and_self]
  | .forever b, h => by
    simp only [good, Bool.and_eq_true] at h
    simp only [wf, norm_good b h.2, h.1, wf_good b h.2, Bool.and_self]
  | .row l, h => by
    simp only [good, Bool.and_eq_true] at h
    exact wfs_good l h.2
theorem wfs_good : ∀ l : List PT, goods l = true → wfs l = true
  | [], _ => rfl
  | t :: r, h => by
    simp only [goods, Bool.and_eq_true] at h
    simp only [wfs, wf_good t h.1.2, wfs_good r h.2, Bool.and_self]
end
theorem units_partsL : ∀ l : List PT, unitsL (joinL l) ≤ unitsL l
  | [] => Nat.le_refl _
  | t :: r => by
    have ih := units_partsL r
    have : unitsL (partsP t) ≤ units t := by cases t <;> simp [partsP, unitsL, units]
    show unitsL (partsP t ++ joinL r) ≤ _
    rw [unitsL_app, unitsL]
    omega
theorem units_joinP (l : List PT) : units (joinP l) ≤ 1 + unitsL l := by
  have h := units_partsL l
  unfold joinP one1
  split
  · rename_i t e
    rw [e] at h
    simp only [unitsL] at h
    omega
  · simp only [units]; omega
theorem deep_partsL : ∀ l : List PT, max 1 (deepL (joinL l)) = max 1 (deepL l)
  | [] => rfl
  | t :: r => by
    have ih := deep_partsL r
    have e := deep_parts t
    show max 1 (deepL (partsP t ++ joinL r)) = _
    rw [deepL_app, deepL]
    omega
theorem deep_joinP (l : List PT) : deep (joinP l) = max 1 (deepL l) := by rw [← deep_join, deep_partsL]
mutual
theorem units_norm : ∀ t : PT, units (norm t) ≤ units t
  | .do_ n | .ret n | .go n | .end_ => Nat.le_refl _
  | .if_ n y z => by have := units_norm y; have := units_norm z; simp only [norm, units]; omega
  | .while_ n w b => by have := units_norm b; simp only [norm, units]; omega
  | .forever b => by have := units_norm b; simp only [norm, units]; omega
  | .row l => by have := units_norms l; have := units_joinP (norms l); simp only [norm, units]; omega
theorem units_norms : ∀ l : List PT, unitsL (norms l) ≤ unitsL l
  | [] => Nat.le_refl _
  | t :: r => by have := units_norm t; have := units_norms r; simp only [norms, unitsL]; omega
end
mutual
theorem deep_norm : ∀ t : PT, deep (norm t) = deep t
  | .do_ n | .ret n | .go n | .end_ => rfl
  | .if_ n y z => by simp only [norm, deep, deep_norm y, deep_norm z]
  | .while_ n w b => by simp only [norm, deep, deep_norm b]
  | .forever b => by simp only [norm, deep, deep_norm b]
  | .row l => by simp only [norm, deep_joinP, deep, deep_norms l]
theorem deep_norms : ∀ l : List PT, deepL (norms l) = deepL l
  | [] => rfl
  | t :: r => by simp only [norms, deepL, deep_norm t, deep_norms r]
end
/-! ### equal as values -/
theorem q_tt {x y : List D} : deq (.tup x) (.tup y) = deqs x y := by simp only [deq]
theorem q_ss {x y : String} : deq (.str x) (.str y) = decide (x = y) := by
  simp only [deq]
  by_cases h : x = y <;> simp [h]
theorem q_bb {x y : Bool} : deq (.bl x) (.bl y) = decide (x = y) := by cases x <;> cases y <;> rfl
theorem q_cc {a b : D} {x y : List D} : deqs (a :: x) (b :: y) = (deq a b && deqs x y) := by simp only [deqs]
theorem q_cn {a : D} {x : List D} : deqs (a :: x) [] = false := by simp only [deqs]
theorem q_nc {a : D} {x : List D} : deqs [] (a :: x) = false := by simp only [deqs]
theorem q_nn : deqs [] [] = true := by simp only [deqs]
mutual
theorem deq_emb : ∀ s t : PT, deq (emb s) (emb t) = true ↔ s = t
  | .do_ n, t => by cases t <;> simp [emb, q_tt, q_ss, q_cc, q_cn, q_nc, q_nn]
  | .ret n, t => by cases t <;> simp [emb, q_tt, q_ss, q_cc, q_cn, q_nc, q_nn]
  | .go n, t => by cases t <;> simp [emb, q_tt, q_ss, q_cc, q_cn, q_nc, q_nn]
  | .end_, t => by cases t <;> simp [emb, q_tt, q_ss, q_cc, q_cn, q_nc, q_nn]
  | .if_ n y z, t => by
    have a := deq_emb y
    have b := deq_emb z
    cases t <;> simp [emb, q_tt, q_ss, q_cc, q_cn, q_nc, q_nn, a, b]
  | .while_ n w c, t => by
    have a := deq_emb c
    cases t <;> simp [emb, q_tt, q_ss, q_bb, q_cc, q_cn, q_nc, q_nn, a]
  | .forever c, t => by
    have a := deq_emb c
    cases t <;> simp [emb, q_tt, q_ss, q_cc, q_cn, q_nc, q_nn, a]
  | .row l, t => by
    have a := deqs_embs l
    cases t <;> simp [emb, q_tt, q_ss, q_cc, q_cn, q_nc, q_nn, a]
theorem deqs_embs : ∀ l k : List PT, deqs (embs l) (embs k) = true ↔ l = k
  | [], k => by cases k <;> simp [embs, q_cc, q_cn, q_nc, q_nn]
  | c :: r, k => by
    have a := deq_emb c
    have b := deqs_embs r
    cases k <;> simp [embs, q_cc, q_cn, q_nc, q_nn, a, b]
end
def same (s t : PT) : Bool := deq (emb s) (emb t)
theorem same_self (t : PT) : same t t = true := (deq_emb t t).mpr rfl
theorem same_symm (s t : PT) : same s t = same t s := Bool.eq_iff_iff.mpr ((deq_emb s t).trans (eq_comm.trans (deq_emb t s).symm))
theorem emb_view {S : Store} (t : PT) : view S (emb t) = emb t := by cases t <;> rfl
theorem eq_emb {s t : PT} {a b : Fl} {S : Store} (hs : good s = true) (ht : good t = true) (ds : deep s ≤ 60) (dt : deep t ≤ 60) : oEq (emb s, a) (emb t, b) S = some (.bl (same s t), .sh) := by
  have d1 := (dep_emb s hs).1
  have d2 := (dep_emb t ht).1
  unfold oEq
  rw [emb_view, emb_view]
  simp [plain_emb, same]
  omega
mutual
theorem dep_hgt : ∀ t : PT, dep (emb t) ≤ 2 * hgt t + 2
  | .do_ _ | .ret _ | .go _ | .end_ => by simp [emb, dep, deps, hgt]
  | .if_ _ y z => by
    have a := dep_hgt y
    have b := dep_hgt z
    simp only [emb, dep, deps, hgt]
    omega
  | .while_ _ _ b => by
    have a := dep_hgt b
    simp only [emb, dep, deps, hgt]
    omega
  | .forever b => by
    have a := dep_hgt b
    simp only [emb, dep, deps, hgt]
    omega
  | .row l => by
    have a := deps_hgt l
    simp only [emb, dep, deps, hgt]
    omega
theorem deps_hgt : ∀ l : List PT, deps (embs l) ≤ 2 * hgtL l + 2
  | [] => by simp [embs, deps]
  | t :: r => by
    have a := dep_hgt t
    have b := deps_hgt r
    simp only [embs, deps, hgtL]
    omega
end
def isE : PT → Bool
  | .end_ => true
  | _ => false
theorem plain_lit : plain (.tup []) = true ∧ plain (.tup [.str "end"]) = true := by simp [plain, plains]
theorem eq_none {t : PT} {a b : Fl} {S : Store} (h : hgt t ≤ 90) : oEq (emb t, a) (.tup [], b) S = some (.bl false, .sh) := by
  have d := dep_hgt t
  have e : deq (emb t) (.tup []) = false := by cases t <;> simp only [emb, q_tt, q_cn]
  unfold oEq
  rw [emb_view, if_pos ⟨plain_emb t, plain_lit.1, by show _ ≤ 190; omega⟩]
  exact congrArg (fun k => some (D.bl k, Fl.sh)) e
theorem eq_end {t : PT} {a b : Fl} {S : Store} (h : hgt t ≤ 90) : oEq (emb t, a) (.tup [.str "end"], b) S = some (.bl (isE t), .sh) := by
  have d := dep_hgt t
  have e : deq (emb t) (.tup [.str "end"]) = isE t := by cases t <;> simp [emb, q_tt, q_ss, q_cc, q_cn, q_nc, q_nn, isE]
  unfold oEq
  rw [emb_view, if_pos ⟨plain_emb t, plain_lit.2, by show _ ≤ 190; omega⟩]
  exact congrArg (fun k => some (D.bl k, Fl.sh)) e
end K25

set_option maxRecDepth 100000
set_option maxHeartbeats 2000000
namespace K25
open DL DE
local macro_rules | `(tactic| walk_at "ev") => `(tactic| try simp only [↓w_look, ↓w_opt_some, ↓w_cst, ↓w_nil, ↓w_cons, ↓w_tup, ↓w_lst, ↓w_T, ↓w_if, ↓DE.w_and, ↓DE.w_or, ↓w_not, ↓w_tand, ↓w_tor, ↓w_tnot, ↓w_op2, ↓w_op1, ↓w_opN, ↓w_b1, ↓w_b2, ↓w_chain, ↓w_call, ↓w_make, ↓w_prop, ↓w_own2, ↓w_eqO, ↓w_neO, ↓w_appO, ↓w_dictE, ↓w_fld, ↓w_lenO, ↓w_isi, ↓w_new, ↓w_noPart, ↓w_part, ↓w_sl, ↓w_seqI, ↓w_rng1, ↓w_lc, ↓w_lc0, ↓w_lc1, ↓w_dict0, ↓w_dict1, ↓w_dict, ↓w_get2, ↓w_join, ↓o_skip, ↓o_seq, ↓o_drop, ↓o_ret, ↓o_retN, ↓o_set, ↓o_own, ↓o_if, ↓o_asg, ↓o_par, ↓o_for, ↓o_for0, ↓o_forN, ↓o_put, ↓o_fldS, ↓w_body, ↓w_init, en0, self_eq, put_held, List.length_nil, ↓w_ok, ↓o_nx,
  lk_sh, lk_own, lk_int, lk_str, lk_tup, lk_bl, lk_non, lk_obj, all_nil, all_cons, v_int, v_bl, v_str, v_tup, v_lst, v_non, v_ins, v_dk, a_int, a_lst, a_tup, a_str, s_int, lt_int, le_int, gt_int, ge_int, m_lst, m_tup, len_tup, len_lst, ix_tup, ix_lst, at_0, at_1, at_2, at_3, q_str, q_int, nq_int, nq_bl, tupOf_lst, tupOf_tup, lstOf_lst, lstOf_tup, int_int, int_bl, max_int, min_int, asB_bl, asI_int, asIns_ins, two_eq, asDk_dk, key_str, key_int, Int.cast_ofNat_Int, Int.natCast_one, Int.natCast_zero, one_eq, rng1_eq, seqOf_own, seqOf_sh, seqOf_bor, seqOf_tup, seqOf_str, asObj_obj, asLst_lst, notR_bl,
  look0, looks, look1_sh, look1_bor, look1_own, look1_lend, lend2, lend_sh, lend_own, lend_bor, lend_mine, en_nil, en_cons, wi_nil, wi_cons, List.set_cons_zero, List.set_cons_succ, List.replicate_zero, List.replicate_succ, List.append_nil, List.nil_append, List.cons_append, List.map_cons, List.map_nil, List.length_cons, List.length_nil, Nat.reduceAdd, Nat.reduceLeDiff, sz_le, sz_lt, Option.map_some, Option.map_none, Option.some.injEq, exists_eq_left', Bool.and_true, Bool.true_and, in2, in3, in4, nin2, sl42, sl43, sl21, sl22, sl11, sl4h2, sl4h3, any_bls, all_bls, max_ints, String.reduceBEq, Bool.or_false, Bool.false_or, Bool.or_true, Bool.true_or, Bool.or_self, pI_view, pI_asIns, pI_fold, pI_leak, getHeld, hd0, hd1, hd2, emb_leak, Bool.not_true, Bool.not_false, and_self, true_and, and_true, if_true, if_false, decide_eq_true_eq, Bool.false_eq_true, reduceCtorEq, ite_true, ite_false])
/-! ### == -/
def EqP (F : SF) : Prop := ∀ (c1 c2 : Nat) (s t : PT) (f1 f2 : Fl) (S : Store), okP c1 = true → okP c2 = true → good s = true → good t = true → deep s ≤ 60 → deep t ≤ 60 → F [(pI c1 s, f1), (pI c2 t, f2)] S = .ok (.bl (same s t), .sh) S
def EqX (F : SF) : Prop := ∀ (c : Nat) (s : PT) (d : D) (f1 f2 : Fl) (S : Store), okP c = true → isiP pb_Program pc_Program (view S d) = some false → F [(pI c s, f1), (d, f2)] S = .ok (.bl false, .sh) S
theorem peq_sem (E : Sem) : EqP (step E).peq := by
  intro c1 c2 s t f1 f2 S h1 h2 g1 g2 d1 d2
  refine WR.eq ?_
  show WR (bodyF 2 (v_peq E) _ _) _
  unfold v_peq
  walk_at "ev"
  rw [show isiP pb_Program pc_Program (pI c2 t) = some true from isi_prog h2]
  walk_at "ev"
  refine ⟨h1, h2, ?_⟩
  rw [eq_emb g1 g2 d1 d2]
  walk_at "ev"
theorem peqX_sem (E : Sem) : EqX (step E).peq := by
  intro c s d f1 f2 S h1 h2
  refine WR.eq ?_
  show WR (bodyF 2 (v_peq E) _ _) _
  unfold v_peq
  walk_at "ev"
  rw [h2]
  walk_at "ev"
/-! ### what is told, made -/
def isLeaf : PT → Bool
  | .do_ _ => true
  | .ret _ => true
  | .go _ => true
  | .end_ => true
  | _ => false
theorem len_emb1 {t : PT} {a : Fl} {S : Store} : oLen (emb t, a) S = some (.int (match t with
    | .end_ => 1
    | .if_ _ _ _ => 4
    | .while_ _ _ _ => 4
    | _ => 2), .sh) := by cases t <;> rfl
def MadeE (F : SF) : Prop := ∀ (t : PT) (fl : Fl) (S : Store), wf t = true → isLeaf t = true → F [(emb t, fl)] S = .ok (pI (cls t) t, .own) S
theorem madeEnd_sem {E : Sem} (m : MkOk E) : MadeE (step E).made_end := by
  intro t fl S hw hk
  refine WR.eq ?_
  show WR (bodyF 1 (v_made_end E) _ _) _
  unfold v_made_end
  walk_at "ev"
  cases t with
  | do_ x =>
    rw [eq_end (by simp only [hgt]; omega)]
    simp only [isE, emb, wf] at *
    walk_at "ev"
    rw [m.do_ x _ S hw]
    walk_at "ev"
    rfl
  | ret x =>
    rw [eq_end (by simp only [hgt]; omega)]
    simp only [isE, emb, wf] at *
    walk_at "ev"
    rw [m.ret x _ S hw]
    walk_at "ev"
    rfl
  | go x =>
    rw [eq_end (by simp only [hgt]; omega)]
    simp only [isE, emb, wf] at *
    walk_at "ev"
    rw [m.go x _ S hw]
    walk_at "ev"
    rfl
  | end_ =>
    rw [eq_end (by simp only [hgt]; omega)]
    simp only [isE]
    walk_at "ev"
    rw [m.end_ S]
    walk_at "ev"
    rfl
  | _ => exact absurd hk (by simp [isLeaf])
theorem isi_emb {t : PT} {S : Store} : isiP pb_tuple pc_tuple (view S (emb t)) = some true := by cases t <;> exact isi_tup
def MadeU (F : SF) (n : Nat) : Prop := ∀ (t : PT) (fl : Fl) (S : Store), hgt t ≤ n → hgt t ≤ 90 → wf t = true → units t ≤ 5000 → deep t ≤ 60 → WR (F [(emb t, fl)] S) fun r S' => r = (pI (cls t) (norm t), .own) ∧ ∃ X, S' = S ++ X
theorem fits {t : PT} (hw : wf t = true) (hu : units t ≤ 5000) (hd : deep t ≤ 60) : good (norm t) = true ∧ units (norm t) ≤ 5000 ∧ deep (norm t) ≤ 60 := ⟨good_norm t hw, Nat.le_trans (units_norm t) hu, by rw [deep_norm]; exact hd⟩
theorem in4 {x : String} : (x == "do" || (x == "return" || (x == "go" || x == "end"))) = (x == "do" || x == "return" || x == "go" || x == "end") := by simp [Bool.or_assoc]
theorem made_sem {E : Sem} {n : Nat} (m : MkOk E) (me : MadeE E.made_end) (hm : MadeU E.made n) : MadeU (step E).made (n + 1) := by
  intro t fl S hh h9 hw hu hd
  obtain ⟨g', u', d'⟩ := fits hw hu hd
  show WR (bodyF 4 (v_made E) _ _) _
  unfold v_made
  walk_at "ev"
  rw [isi_emb]
  walk_at "ev"
  rw [eq_none h9]
  walk_at "ev"
  rw [ix0]
  walk_at "ev"
  rw [isi_str]
  walk_at "ev"
  rw [ix0]
  walk_at "ev"
  have leaf : isLeaf t = true → ∀ f, WR (E.made_end [(emb t, f)] S) fun r S' => r = (pI (cls t) (norm t), .own) ∧ ∃ X, S' = S ++ X := fun hk f => by
    rw [me t f S hw hk]
    refine ⟨?_, [], by simp⟩
    cases t <;> first | rfl | exact absurd hk (by simp [isLeaf])
  have up : ∀ {r : RV} {S' : Store}, (r = (pI (cls t) (norm t), Fl.own) ∧ ∃ X, S' = S ++ X) → leakOk r = true ∧ (r.1, if r.2 = Fl.own then Fl.own else Fl.sh) = (pI (cls t) (norm t), Fl.own) ∧ ∃ X, S' = S ++ X := fun {r S'} h => by
    obtain ⟨rfl, h⟩ := h
    exact ⟨rfl, rfl, h⟩
  cases t with
  | do_ x =>
    simp only [wordP]
    walk_at "ev"
    exact (leaf rfl _).mono fun _ _ h => up h
  | ret x =>
    simp only [wordP]
    walk_at "ev"
    exact (leaf rfl _).mono fun _ _ h => up h
  | go x =>
    simp only [wordP]
    walk_at "ev"
    exact (leaf rfl _).mono fun _ _ h => up h
  | end_ =>
    simp only [wordP]
    walk_at "ev"
    exact (leaf rfl _).mono fun _ _ h => up h
  | if_ x y z =>
    have hw' := hw
    simp only [wf, Bool.and_eq_true] at hw'
    have hu' := hu
    have hd' := hd
    simp only [units] at hu'
    simp only [deep] at hd'
    simp only [hgt] at hh h9
    simp only [wordP, emb]
    walk_at "ev"
    refine (hm y _ S (by omega) (by omega) hw'.1.2 (by omega) (by omega)).mono ?_
    rintro _ _ ⟨rfl, X1, rfl⟩
    walk_at "ev"
    refine (hm z _ _ (by omega) (by omega) hw'.2 (by omega) (by omega)).mono ?_
    rintro _ _ ⟨rfl, X2, rfl⟩
    walk_at "ev"
    rw [m.if_ x _ _ _ _ _ _ _ _ hw'.1.1 (cls_ok y) (cls_ok z) u' d']
    walk_at "ev"
    exact ⟨rfl, _, List.append_assoc _ _ _⟩
  | while_ x w y =>
    have hw' := hw
    simp only [wf, Bool.and_eq_true] at hw'
    have hu' := hu
    have hd' := hd
    simp only [units] at hu'
    simp only [deep] at hd'
    simp only [hgt] at hh h9
    simp only [wordP, emb]
    walk_at "ev"
    refine (hm y _ S (by omega) (by omega) hw'.2 (by omega) (by omega)).mono ?_
    rintro _ _ ⟨rfl, X1, rfl⟩
    walk_at "ev"
    rw [m.while_ x _ _ w _ _ _ _ hw'.1 (cls_ok y) u' d']
    walk_at "ev"
    exact ⟨rfl, _, rfl⟩
  | forever y =>
    have hw' := hw
    simp only [wf, Bool.and_eq_true, Bool.not_eq_true'] at hw'
    have hu' := hu
    have hd' := hd
    simp only [units] at hu'
    simp only [deep] at hd'
    simp only [hgt] at hh h9
    simp only [wordP, emb]
    walk_at "ev"
    refine (hm y _ S (by omega) (by omega) hw'.2 (by omega) (by omega)).mono ?_
    rintro _ _ ⟨rfl, X1, rfl⟩
    walk_at "ev"
    rw [m.forever _ _ _ _ (good_norm y hw'.2) hw'.1 (cls_ok y) u' d']
    walk_at "ev"
    exact ⟨rfl, _, rfl⟩
  | row l =>
    have hu' := hu
    have hd' := hd
    simp only [units] at hu'
    simp only [deep] at hd'
    simp only [hgt] at hh h9
    simp only [wf, wfs_all, List.all_eq_true] at hw
    simp only [wordP, emb]
    walk_at "ev"
    rw [isi_tup]
    walk_at "ev"
    have rl := row_unitsL l
    refine o_forP (fun n ρ S' => ∃ X x3, S' = S ++ .lst ((l.take n).map fun t => pI (cls t) (norm t)) :: X ∧ ρ = [some (.tup [.str "row", .tup (embs l)], lend fl), some (.str "row", .sh), some (.obj S.length, .sh), x3]) ⟨[], none, rfl, rfl⟩ ?_ ?_
    · rintro n d ρ S' hn ⟨X, x3, rfl, rfl⟩
      rw [embs_map, List.getElem?_map, Option.map_eq_some_iff] at hn
      obtain ⟨s, hs, rfl⟩ := hn
      have sm := List.mem_of_getElem? hs
      have h1 := hgtL_mem sm
      have h2 := unitsL_mem sm
      have h3 := deepL_mem sm
      obtain ⟨hnl, hne⟩ := List.getElem?_eq_some_iff.mp hs
      walk_at "ev"
      refine ⟨⟨_, by simp [asLst]; rfl⟩, ?_⟩
      refine (hm s _ _ (by omega) (by omega) (hw s sm) (by omega) (by omega)).mono ?_
      rintro _ _ ⟨rfl, X1, rfl⟩
      walk_at "ev"
      refine ⟨_, by rw [List.append_assoc, List.getElem?_append_right (Nat.le_refl _)]; simp [asLst]; rfl, ?_, X ++ X1, _, ?_, rfl⟩
      · rw [List.length_take, List.length_map]
        exact lt_line (by omega)
      · rw [List.append_assoc, List.set_append_right _ _ (Nat.le_refl _), List.take_succ_eq_append_getElem hnl, hne]
        simp
    · rintro ρ S' ⟨X, x3, rfl, rfl⟩
      rw [show (embs l).length = l.length by rw [embs_map, List.length_map], List.take_length]
      walk_at "ev"
      have vw : view (S ++ D.lst (l.map fun t => pI (cls t) (norm t)) :: X) (.obj S.length) = .lst (l.map fun t => pI (cls t) (norm t)) := by
        show (S ++ _ :: X).getD S.length _ = _
        rw [List.getD_eq_getElem?_getD, List.getElem?_append_right (Nat.le_refl _)]
        simp
      rw [show ∀ a, oTupOf (.obj S.length, a) (S ++ D.lst (l.map fun t => pI (cls t) (norm t)) :: X) = some (.tup (l.map fun t => pI (cls t) (norm t)), .sh) from fun a => by unfold oTupOf; rw [vw]]
      walk_at "ev"
      have e := m.row (l.map fun t => (cls t, norm t)) .sh (S ++ D.lst (l.map fun t => pI (cls t) (norm t)) :: X) (fun p hp => by
        obtain ⟨t, ht, rfl⟩ := List.mem_map.mp hp
        exact ⟨cls_ok t, good_norm t (hw t ht)⟩)
      rw [show (l.map fun t => (cls t, norm t)).map (·.2) = norms l by rw [List.map_map, norms_map]; rfl] at e
      have e := e u' d'
      rw [show pIs (l.map fun t => (cls t, norm t)) = l.map fun t => pI (cls t) (norm t) by simp [pIs, Function.comp]] at e
      rw [e]
      walk_at "ev"
      exact ⟨rfl, _, rfl⟩
def OfU (F : SF) (n : Nat) : Prop := MadeU F n
theorem of_sem {E : Sem} {n : Nat} (hm : MadeU E.made n) : OfU (step E).s_Program_of n := by
  intro t fl S hh h9 hw hu hd
  show WR (bodyF 1 (v_s_Program_of E) _ _) _
  unfold v_s_Program_of
  walk_at "ev"
  refine (hm t _ S hh h9 hw hu hd).mono ?_
  rintro _ _ ⟨rfl, X1, rfl⟩
  exact ⟨rfl, rfl, X1, rfl⟩
end K25

set_option maxRecDepth 100000
set_option maxHeartbeats 2000000
namespace K25
open DL DE
local macro_rules | `(tactic| walk_at "ev") => `(tactic| try simp only [↓w_look, ↓w_opt_some, ↓w_cst, ↓w_nil, ↓w_cons, ↓w_tup, ↓w_lst, ↓w_T, ↓w_if, ↓DE.w_and, ↓DE.w_or, ↓w_not, ↓w_tand, ↓w_tor, ↓w_tnot, ↓w_op2, ↓w_op1, ↓w_opN, ↓w_b1, ↓w_b2, ↓w_chain, ↓w_call, ↓w_make, ↓w_prop, ↓w_own2, ↓w_eqO, ↓w_neO, ↓w_appO, ↓w_dictE, ↓w_fld, ↓w_lenO, ↓w_isi, ↓w_new, ↓w_noPart, ↓w_part, ↓w_sl, ↓w_seqI, ↓w_rng1, ↓w_lc, ↓w_lc0, ↓w_lc1, ↓w_dict0, ↓w_dict1, ↓w_dict, ↓w_get2, ↓w_join, ↓o_skip, ↓o_seq, ↓o_drop, ↓o_ret, ↓o_retN, ↓o_set, ↓o_own, ↓o_if, ↓o_asg, ↓o_par, ↓o_for, ↓o_for0, ↓o_forN, ↓o_put, ↓o_fldS, ↓w_body, ↓w_init, en0, self_eq, put_held, List.length_nil, ↓w_ok, ↓o_nx,
  lk_sh, lk_own, lk_int, lk_str, lk_tup, lk_bl, lk_non, lk_obj, all_nil, all_cons, v_int, v_bl, v_str, v_tup, v_lst, v_non, v_ins, v_dk, a_int, a_lst, a_tup, a_str, s_int, lt_int, le_int, gt_int, ge_int, m_lst, m_tup, len_tup, len_lst, ix_tup, ix_lst, at_0, at_1, at_2, at_3, q_str, q_int, nq_int, nq_bl, tupOf_lst, tupOf_tup, lstOf_lst, lstOf_tup, int_int, int_bl, max_int, min_int, asB_bl, asI_int, asIns_ins, two_eq, asDk_dk, key_str, key_int, Int.cast_ofNat_Int, Int.natCast_one, Int.natCast_zero, one_eq, rng1_eq, seqOf_own, seqOf_sh, seqOf_bor, seqOf_tup, seqOf_str, asObj_obj, asLst_lst, notR_bl,
  look0, looks, look1_sh, look1_bor, look1_own, look1_lend, lend2, lend_sh, lend_own, lend_bor, lend_mine, en_nil, en_cons, wi_nil, wi_cons, List.set_cons_zero, List.set_cons_succ, List.replicate_zero, List.replicate_succ, List.append_nil, List.nil_append, List.cons_append, List.map_cons, List.map_nil, List.length_cons, List.length_nil, Nat.reduceAdd, Nat.reduceLeDiff, sz_le, sz_lt, Option.map_some, Option.map_none, Option.some.injEq, exists_eq_left', Bool.and_true, Bool.true_and, in2, in3, in4, nin2, sl42, sl43, sl21, sl22, sl11, sl4h2, sl4h3, any_bls, all_bls, max_ints, String.reduceBEq, Bool.or_false, Bool.false_or, Bool.or_true, Bool.true_or, Bool.or_self, pI_view, pI_asIns, pI_fold, pI_leak, getHeld, hd0, hd1, hd2, emb_leak, Bool.not_true, Bool.not_false, and_self, true_and, and_true, if_true, if_false, decide_eq_true_eq, Bool.false_eq_true, reduceCtorEq, ite_true, ite_false])
def BuiltG (F : SF) (n : Nat) : Prop := ∀ (t : PT) (fl : Fl) (S : Store), hgt t ≤ n → wf t = true → units t ≤ 5000 → deep t ≤ 60 → F [(emb t, fl)] S = .ok (pI (cls t) (norm t), .own) S
theorem builtG_sem {E : Sem} {n : Nat} (m : MkOk E) (hb : BuiltG E.L_built n) : BuiltG (step E).L_built (n + 1) := by
  intro t fl S hh hw hu hd
  obtain ⟨g', u', d'⟩ := fits hw hu hd
  refine WR.eq ?_
  show WR (bodyF 3 (v_L_built E) _ _) _
  unfold v_L_built
  walk_at "ev"
  rw [ix0]
  cases t with
  | do_ x =>
    simp only [emb, wordP, wf] at *
    walk_at "ev"
    rw [m.do_ x _ S hw]
    walk_at "ev"
    rfl
  | ret x =>
    simp only [emb, wordP, wf] at *
    walk_at "ev"
    rw [m.ret x _ S hw]
    walk_at "ev"
    rfl
  | go x =>
    simp only [emb, wordP, wf] at *
    walk_at "ev"
    rw [m.go x _ S hw]
    walk_at "ev"
    rfl
  | end_ =>
    simp only [emb, wordP, wf] at *
    walk_at "ev"
    rw [m.end_ S]
    walk_at "ev"
    rfl
  | if_ x y z =>
    have hw' := hw
    simp only [wf, Bool.and_eq_true] at hw'
    have hu' := hu
    have hd' := hd
    simp only [units] at hu'
    simp only [deep] at hd'
    simp only [hgt] at hh
    simp only [emb, wordP]
    walk_at "ev"
    rw [hb y _ S (by omega) hw'.1.2 (by omega) (by omega)]
    walk_at "ev"
    rw [hb z _ S (by omega) hw'.2 (by omega) (by omega)]
    walk_at "ev"
    rw [m.if_ x _ _ _ _ _ _ _ S hw'.1.1 (cls_ok y) (cls_ok z) u' d']
    walk_at "ev"
    rfl
  | while_ x w y =>
    have hw' := hw
    simp only [wf, Bool.and_eq_true] at hw'
    have hu' := hu
    have hd' := hd
    simp only [units] at hu'
    simp only [deep] at hd'
    simp only [hgt] at hh
    simp only [emb, wordP]
    walk_at "ev"
    rw [hb y _ S (by omega) hw'.2 (by omega) (by omega)]
    walk_at "ev"
    rw [m.while_ x _ _ w _ _ _ S hw'.1 (cls_ok y) u' d']
    walk_at "ev"
    rfl
  | forever y =>
    have hw' := hw
    simp only [wf, Bool.and_eq_true, Bool.not_eq_true'] at hw'
    have hu' := hu
    have hd' := hd
    simp only [units] at hu'
    simp only [deep] at hd'
    simp only [hgt] at hh
    simp only [emb, wordP]
    walk_at "ev"
    rw [hb y _ S (by omega) hw'.2 (by omega) (by omega)]
    walk_at "ev"
    rw [m.forever _ _ _ S (good_norm y hw'.2) hw'.1 (cls_ok y) u' d']
    walk_at "ev"
    rfl
  | row l =>
    simp only [wf, wfs_all, List.all_eq_true] at hw
    have hu' := hu
    have hd' := hd
    simp only [units] at hu'
    simp only [deep] at hd'
    simp only [hgt] at hh
    simp only [emb, wordP]
    walk_at "ev"
    have rl := row_unitsL l
    refine ⟨by rw [embs_map, List.length_map]; exact lt_line (by omega), ?_⟩
    rw [embs_map, lc_map emb (fun t => pI (cls t) (norm t)) l fun s hs => ⟨.own, by
      have := hgtL_mem hs
      have := unitsL_mem hs
      have := deepL_mem hs
      refine WR.eq ?_
      walk_at "ev"
      rw [hb s _ S (by omega) (hw s hs) (by omega) (by omega)]
      walk_at "ev", rfl⟩]
    walk_at "ev"
    have e := m.row (l.map fun t => (cls t, norm t)) .sh S (fun p hp => by
      obtain ⟨t, ht, rfl⟩ := List.mem_map.mp hp
      exact ⟨cls_ok t, good_norm t (hw t ht)⟩)
    rw [show (l.map fun t => (cls t, norm t)).map (·.2) = norms l by rw [List.map_map, norms_map]; rfl] at e
    have e := e u' d'
    rw [show pIs (l.map fun t => (cls t, norm t)) = l.map fun t => pI (cls t) (norm t) by simp [pIs, Function.comp]] at e
    rw [e]
    walk_at "ev"
    rfl
/-! ### how many -/
theorem units_ins (t : PT) : (units t : Int) = 1 + ((insP t).map fun t => (units t : Int)).sum := by
  have h : ∀ l : List PT, (unitsL l : Int) = (l.map fun t => (units t : Int)).sum := fun l => by
    induction l with
    | nil => rfl
    | cons a r ih => rw [unitsL, List.map_cons, List.sum_cons, ← ih]; omega
  cases t <;> simp [units, insP, h] <;> omega
def ManyU (F : SF) (n : Nat) : Prop := ∀ (t : PT) (fl : Fl) (S : Store), hgt t ≤ n → units t ≤ 5000 → F [(emb t, fl)] S = .ok (.int (units t), .sh) S
theorem many_sem {E : Sem} {n : Nat} (hi : LInsOk E.L_insides) (hs : ManyU E.L_many n) : ManyU (step E).L_many (n + 1) := by
  intro t fl S hh hu
  refine WR.eq ?_
  show WR (bodyF 2 (v_L_many E) _ _) _
  unfold v_L_many
  walk_at "ev"
  rw [hi]
  walk_at "ev"
  have rl := row_units t
  refine ⟨by rw [embs_map, List.length_map]; exact lt_line (by omega), ?_⟩
  rw [lc_call (by simp) (g := fun t => .int (units t)) (fun s hs' => hs s .sh S (by have := insP_hgt hs'; omega) (by have := insP_units hs'; omega))]
  rw [show (insP t).map (fun t => D.int (units t)) = ((insP t).map fun t => (units t : Int)).map D.int by simp]
  walk_at "ev"
  rw [sum_ints]
  walk_at "ev"
  rw [units_ins t]
/-! ### lists of truths -/
theorem deqs_bls : ∀ l k : List Bool, deqs (l.map D.bl) (k.map D.bl) = decide (l = k)
  | [], [] => by simp [q_nn]
  | [], b :: k => by simp [q_nc]
  | a :: l, [] => by simp [q_cn]
  | a :: l, b :: k => by
    rw [List.map_cons, List.map_cons, q_cc, q_bb, deqs_bls l k]
    by_cases h : a = b <;> by_cases h2 : l = k <;> simp [h, h2]
theorem plain_bls (l : List Bool) : plain (.lst (l.map D.bl)) = true ∧ dep (.lst (l.map D.bl)) ≤ 190 := by
  have h : ∀ l : List Bool, plains (l.map D.bl) = true ∧ deps (l.map D.bl) = 0 := fun l => by
    induction l with
    | nil => exact ⟨rfl, rfl⟩
    | cons a r ih => exact ⟨by simp [plains, plain, ih.1], by simp [deps, dep, ih.2]⟩
  refine ⟨?_, ?_⟩
  · simp only [plain]; exact (h l).1
  · simp only [dep, (h l).2]; decide
theorem eq_bls {l k : List Bool} {a b : Fl} {S : Store} : oEq (.lst (l.map D.bl), a) (.lst (k.map D.bl), b) S = some (.bl (decide (l = k)), .sh) := by
  unfold oEq
  rw [v_lst, v_lst, if_pos ⟨(plain_bls l).1, (plain_bls k).1, (plain_bls l).2⟩]
  simp only [deq, deqs_bls]
theorem ne_bls {l k : List Bool} {a b : Fl} {S : Store} : oNe (.lst (l.map D.bl), a) (.lst (k.map D.bl), b) S = some (.bl (!decide (l = k)), .sh) := by
  unfold oNe
  rw [v_lst, v_lst, if_pos ⟨(plain_bls l).1, (plain_bls k).1, (plain_bls l).2⟩]
  simp only [deq, deqs_bls]
/-! ### of what class -/
theorem isi_Do {c : Nat} {t : PT} (h : okP c = true) : isiP pb_Do pc_Do (pI c t) = some (decide (c ∈ [1])) := by show (if okP c = true then _ else _) = _; rw [if_pos h]
theorem isi_Return {c : Nat} {t : PT} (h : okP c = true) : isiP pb_Return pc_Return (pI c t) = some (decide (c ∈ [2])) := by show (if okP c = true then _ else _) = _; rw [if_pos h]
theorem isi_Go {c : Nat} {t : PT} (h : okP c = true) : isiP pb_Go pc_Go (pI c t) = some (decide (c ∈ [3])) := by show (if okP c = true then _ else _) = _; rw [if_pos h]
theorem isi_End {c : Nat} {t : PT} (h : okP c = true) : isiP pb_End pc_End (pI c t) = some (decide (c ∈ [4])) := by show (if okP c = true then _ else _) = _; rw [if_pos h]
theorem isi_If {c : Nat} {t : PT} (h : okP c = true) : isiP pb_If pc_If (pI c t) = some (decide (c ∈ [5])) := by show (if okP c = true then _ else _) = _; rw [if_pos h]
theorem isi_While {c : Nat} {t : PT} (h : okP c = true) : isiP pb_While pc_While (pI c t) = some (decide (c ∈ [6])) := by show (if okP c = true then _ else _) = _; rw [if_pos h]
theorem isi_Forever {c : Nat} {t : PT} (h : okP c = true) : isiP pb_Forever pc_Forever (pI c t) = some (decide (c ∈ [7])) := by show (if okP c = true then _ else _) = _; rw [if_pos h]
theorem isi_Row {c : Nat} {t : PT} (h : okP c = true) : isiP pb_Row pc_Row (pI c t) = some (decide (c ∈ [8])) := by show (if okP c = true then _ else _) = _; rw [if_pos h]
theorem isi_Asking {c : Nat} {t : PT} (h : okP c = true) : isiP pb_Asking pc_Asking (pI c t) = some (decide (c ∈ [5, 6])) := by show (if okP c = true then _ else _) = _; rw [if_pos h]
theorem isi_Loop {c : Nat} {t : PT} (h : okP c = true) : isiP pb_Loop pc_Loop (pI c t) = some (decide (c ∈ [6, 7])) := by show (if okP c = true then _ else _) = _; rw [if_pos h]
theorem isi_P {c : Nat} {t : PT} (h : okP c = true) : isiP pb_Program pc_Program (pI c t) = some true := isi_prog h
def okB (t : PT) : Prop := hgt t ≤ 60 ∧ good t = true ∧ units t ≤ 5000 ∧ deep t ≤ 30
def ClassOk (F : SF) : Prop := ∀ (t : PT) (fl f2 : Fl) (S : Store), F [(pI (cls t) t, fl), (emb t, f2)] S = .ok (.bl true, .sh) S
theorem class_sem (E : Sem) : ClassOk (step E).L_class_right := by
  intro t fl f2 S
  refine WR.eq ?_
  show WR (bodyF 7 (v_L_class_right E) _ _) _
  unfold v_L_class_right
  have ok := cls_ok t
  walk_at "ev"
  rw [isi_Do ok]
  walk_at "ev"
  rw [isi_Return ok]
  walk_at "ev"
  rw [isi_Go ok]
  walk_at "ev"
  rw [isi_End ok]
  walk_at "ev"
  rw [isi_If ok]
  walk_at "ev"
  rw [isi_While ok]
  walk_at "ev"
  rw [isi_Forever ok]
  walk_at "ev"
  rw [isi_Row ok]
  walk_at "ev"
  repeat (first
    | (rw [ix0]; walk_at "ev"))
  rw [show ("do" == wordP t) = decide (cls t ∈ [1]) by cases t <;> rfl, show ("return" == wordP t) = decide (cls t ∈ [2]) by cases t <;> rfl, show ("go" == wordP t) = decide (cls t ∈ [3]) by cases t <;> rfl, show ("end" == wordP t) = decide (cls t ∈ [4]) by cases t <;> rfl,
    show ("if" == wordP t) = decide (cls t ∈ [5]) by cases t <;> rfl, show ("while" == wordP t) = decide (cls t ∈ [6]) by cases t <;> rfl, show ("forever" == wordP t) = decide (cls t ∈ [7]) by cases t <;> rfl, show ("row" == wordP t) = decide (cls t ∈ [8]) by cases t <;> rfl]
  have e8 := ne_bls (l := [decide (cls t ∈ [1]), decide (cls t ∈ [2]), decide (cls t ∈ [3]), decide (cls t ∈ [4]), decide (cls t ∈ [5]), decide (cls t ∈ [6]), decide (cls t ∈ [7]), decide (cls t ∈ [8])]) (k := [decide (cls t ∈ [1]), decide (cls t ∈ [2]), decide (cls t ∈ [3]), decide (cls t ∈ [4]), decide (cls t ∈ [5]), decide (cls t ∈ [6]), decide (cls t ∈ [7]), decide (cls t ∈ [8])]) (a := .own) (b := .own) (S := S)
  simp only [List.map_cons, List.map_nil, decide_true, Bool.not_true] at e8
  rw [e8]
  walk_at "ev"
  rw [ix0]
  walk_at "ev"
  rw [ix0]
  walk_at "ev"
  rw [isi_P ok]
  walk_at "ev"
  rw [isi_Asking ok]
  walk_at "ev"
  rw [isi_Loop ok]
  walk_at "ev"
  have e3 := eq_bls (l := [true, decide (cls t ∈ [5, 6]), decide (cls t ∈ [6, 7])]) (k := [true, "if" == wordP t || "while" == wordP t, "while" == wordP t || "forever" == wordP t]) (a := .own) (b := .own) (S := S)
  have k3 : ([true, decide (cls t ∈ [5, 6]), decide (cls t ∈ [6, 7])] : List Bool) = [true, "if" == wordP t || "while" == wordP t, "while" == wordP t || "forever" == wordP t] := by cases t <;> rfl
  rw [decide_eq_true k3] at e3
  simp only [List.map_cons, List.map_nil] at e3
  rw [e3]
  walk_at "ev"
/-! ### strange things, what is told -/
def IsOk (F : SF) (n : Nat) : Prop := ∀ (c : Nat) (t : PT) (fl f2 : Fl) (S : Store), okP c = true → hgt t ≤ n → good t = true → units t ≤ 5000 → deep t ≤ 30 → F [(pI c t, fl), (emb t, f2)] S = .ok (.bl true, .sh) S
theorem is_sem {E : Sem} {n : Nat} (td : ToldP E.told) (ln : LenP E.plen) (mn : ManyU E.L_many n) : IsOk (step E).L_is n := by
  intro c t fl f2 S hc hh hg hu hd
  obtain ⟨y1, hy1⟩ := repr_emb hg hu hd
  refine WR.eq ?_
  show WR (bodyF 3 (v_L_is E) _ _) _
  unfold v_L_is
  walk_at "ev"
  refine ⟨by decide, ?_⟩
  rw [show rngD 0 (Int.toNat 2) = [.int 0, .int 1] from rfl]
  walk_at "ev"
  refine ⟨hc, ?_⟩
  rw [td c t _ S hc]
  walk_at "ev"
  rw [hy1]
  walk_at "ev"
  rw [hy1]
  walk_at "ev"
  rw [nq_same]
  walk_at "ev"
  refine ⟨hc, ?_⟩
  rw [ln c t _ S hc]
  walk_at "ev"
  refine ⟨by omega, ?_⟩
  rw [mn t _ S hh hu]
  walk_at "ev"
  rw [if_neg (by simp)]
  refine ⟨hc, ?_⟩
  rw [td c t _ S hc]
  walk_at "ev"
  rw [hy1]
  walk_at "ev"
  rw [hy1]
  walk_at "ev"
  rw [nq_same]
  walk_at "ev"
  refine ⟨hc, ?_⟩
  rw [ln c t _ S hc]
  walk_at "ev"
  refine ⟨by omega, ?_⟩
  rw [mn t _ S hh hu]
  walk_at "ev"
  rw [if_neg (by simp)]
  rw [isi_P hc]
  walk_at "ev"
theorem lst_emb (t : PT) : ∃ ds, ∀ fl S, oLstOf (emb t, fl) S = some (.lst ds, .own) := by cases t <;> exact ⟨_, fun _ _ => rfl⟩
def StrangeOk (F : SF) : Prop := ∀ (c : Nat) (t : PT) (fl f2 : Fl) (S : Store), okP c = true → good t = true → units t ≤ 5000 → deep t ≤ 30 → F [(pI c t, fl), (emb t, f2)] S = .ok (.bl true, .sh) S
theorem strange_sem {E : Sem} (eq : EqX E.peq) : StrangeOk (step E).L_strange := by
  intro c t fl f2 S hc hg hu hd
  obtain ⟨y1, hy1⟩ := repr_emb hg hu hd
  refine WR.eq ?_
  show WR (bodyF 4 (v_L_strange E) _ _) _
  unfold v_L_strange
  walk_at "ev"
  rw [hy1]
  walk_at "ev"
  obtain ⟨ds, hds⟩ := lst_emb t
  rw [hds]
  walk_at "ev"
  rw [ix0]
  walk_at "ev"
  rw [lc_filter (fun _ => false) (fun _ => .int 1) _ fun d hd => ⟨?_, .sh, rfl, rfl⟩]
  · rw [List.filter_eq_nil_iff.mpr fun _ _ => by simp, List.map_nil]
    walk_at "ev"
    rw [show ∀ a b, oEq (.lst [], a) (.lst [], b) S = some (.bl true, .sh) from fun _ _ => rfl]
    walk_at "ev"
  · have hq : okD okP okT (view S d) = true ∧ isiP pb_Program pc_Program (view S d) = some false := by
      simp only [List.mem_cons, List.not_mem_nil, or_false] at hd
      rcases hd with rfl | rfl | rfl | rfl | rfl | rfl | rfl
      · exact ⟨rfl, rfl⟩
      · cases t <;> exact ⟨rfl, rfl⟩
      · exact ⟨rfl, rfl⟩
      · exact ⟨rfl, rfl⟩
      · exact ⟨rfl, rfl⟩
      · exact ⟨rfl, rfl⟩
      · exact ⟨rfl, rfl⟩
    refine WR.eq ?_
    walk_at "ev"
    refine ⟨⟨hc, hq.1⟩, ?_⟩
    rw [eq c t d _ _ S hc hq.2]
    walk_at "ev"
    refine ⟨⟨hc, hq.1⟩, ?_⟩
    rw [eq c t d _ _ S hc hq.2]
    walk_at "ev"
end K25

set_option maxRecDepth 100000
set_option maxHeartbeats 2000000
namespace K25
open DL DE
/-! ### rows within rows -/
theorem one_parts {l : List PT} (h : ∀ t ∈ l, isRow t = false) : partsP (one1 l) = l := by
  unfold one1
  split
  · rename_i t
    have := h t List.mem_cons_self
    cases t <;> first | rfl | cases this
  · rfl
theorem joinL_flatr : ∀ {l : List PT}, (∀ t ∈ l, good t = true) → ∀ t ∈ joinL l, isRow t = false
  | l, h, t, ht => by
    have g := goods_join h
    rw [goods_all, List.all_eq_true] at g
    have := g t ht
    simp only [Bool.and_eq_true, Bool.not_eq_true'] at this
    exact this.1
theorem parts_join {l : List PT} (h : ∀ t ∈ l, good t = true) : partsP (joinP l) = joinL l := one_parts (joinL_flatr h)
theorem join_one {t : PT} (g : good t = true) : joinP [t] = t := by
  have e : joinL [t] = partsP t := by simp [joinL]
  unfold joinP
  rw [e]
  cases t with
  | row l =>
    simp only [good, Bool.and_eq_true, decide_eq_true_eq] at g
    exact one1_ne g.1
  | _ => rfl
/-- what a row opened is -/
def fl (l : List PT) : List PT := joinL (norms l)
theorem fl_app (l k : List PT) : fl (l ++ k) = fl l ++ fl k := by unfold fl; rw [norms_map, List.map_append, joinL_app, ← norms_map, ← norms_map]
theorem fl_row {l : List PT} (h : wfs l = true) : fl [.row l] = fl l := by
  have e : fl [.row l] = partsP (joinP (norms l)) := by simp [fl, norms, norm, joinL]
  rw [e, parts_join (good_norms l h)]
  rfl
theorem norm_row (l : List PT) : norm (.row l) = one1 (fl l) := rfl
theorem wfs_app (l k : List PT) : wfs (l ++ k) = (wfs l && wfs k) := by simp only [wfs_all, List.all_append]
theorem wfs_take {l : List PT} (h : wfs l = true) (n : Nat) : wfs (l.take n) = true ∧ wfs (l.drop n) = true := by
  have := wfs_app (l.take n) (l.drop n)
  rw [List.take_append_drop, h] at this
  exact ⟨(Bool.and_eq_true _ _ ▸ this.symm).1, (Bool.and_eq_true _ _ ▸ this.symm).2⟩
theorem hgtL_app (l k : List PT) : hgtL (l ++ k) = max (hgtL l) (hgtL k) := by
  induction l with
  | nil => simp [hgtL]
  | cons a r ih => simp only [List.cons_append, hgtL, ih]; omega
/-- three ways to put brackets -/
def way0 (l : List PT) (n : Nat) : List PT := [.row (l.take n)] ++ l.drop n
def way1 (l : List PT) (n : Nat) : List PT := l.take n ++ [.row []] ++ l.drop n
def way2 (l : List PT) (n : Nat) : List PT := l.take n ++ [.row (l.drop n)]
structure Br (l k : List PT) : Prop where
  w : wfs k = true
  f : fl k = fl l
  u : unitsL k ≤ unitsL l + 1
  h : hgtL k ≤ hgtL l + 1
theorem unitsL_td (l : List PT) (n : Nat) : unitsL (l.take n) + unitsL (l.drop n) = unitsL l := by rw [← unitsL_app, List.take_append_drop]
theorem hgtL_td (l : List PT) (n : Nat) : max (hgtL (l.take n)) (hgtL (l.drop n)) = hgtL l := by rw [← hgtL_app, List.take_append_drop]
theorem br0 {l : List PT} (h : wfs l = true) (n : Nat) : Br l (way0 l n) := by
  obtain ⟨a, b⟩ := wfs_take h n
  have u := unitsL_td l n
  have g := hgtL_td l n
  refine ⟨by simp only [way0, wfs_app, wfs, wf, a, b, Bool.and_self], by rw [way0, fl_app, fl_row a, ← fl_app, List.take_append_drop], ?_, ?_⟩
  · simp only [way0, unitsL_app, unitsL, units]; omega
  · simp only [way0, hgtL_app, hgtL, hgt]; omega
theorem br1 {l : List PT} (h : wfs l = true) (n : Nat) : Br l (way1 l n) := by
  obtain ⟨a, b⟩ := wfs_take h n
  have u := unitsL_td l n
  have g := hgtL_td l n
  refine ⟨by simp only [way1, wfs_app, wfs, wf, a, b, Bool.and_self], by rw [way1, fl_app, fl_app, fl_row rfl, show fl [] = [] from rfl, List.append_nil, ← fl_app, List.take_append_drop], ?_, ?_⟩
  · simp only [way1, unitsL_app, unitsL, units]; omega
  · simp only [way1, hgtL_app, hgtL, hgt]; omega
theorem br2 {l : List PT} (h : wfs l = true) (n : Nat) : Br l (way2 l n) := by
  obtain ⟨a, b⟩ := wfs_take h n
  have u := unitsL_td l n
  have g := hgtL_td l n
  refine ⟨by simp only [way2, wfs_app, wfs, wf, a, b, Bool.and_self], by rw [way2, fl_app, fl_row b, ← fl_app, List.take_append_drop], ?_, ?_⟩
  · simp only [way2, unitsL_app, unitsL, units]; omega
  · simp only [way2, hgtL_app, hgtL, hgt]; omega
theorem br3 {l : List PT} (h : wfs l = true) : Br l l := ⟨h, rfl, by omega, by omega⟩
/-- what is the same, but for brackets -/
structure Loose (t s : PT) : Prop where
  w : wf s = true
  n : norm s = t
  u : units s ≤ 3 * units t
  h : hgt s ≤ 3 * hgt t
theorem Loose.wrap {t s : PT} (g : good t = true) (w : wf s = true) (n : norm s = t) (u : units s + 1 ≤ 3 * units t) (h : hgt s + 1 ≤ 3 * hgt t) (b : Bool) : Loose t (if b = true then .row [s] else s) := by
  cases b with
  | false => exact ⟨w, n, by show units s ≤ _; omega, by show hgt s ≤ _; omega⟩
  | true =>
    refine ⟨by simp [wf, wfs, w], ?_, by simp only [if_true, units, unitsL]; omega, by simp only [if_true, hgt, hgtL]; omega⟩
    show norm (.row [s]) = t
    rw [norm, norms, norms, n, join_one g]
theorem cut_take {α : Type} {ds : List α} {k : Nat} (h : k ≤ ds.length) : cutD ds none (some (k : Int)) = ds.take k := by
  unfold cutD
  rw [HT.sIx_none, HT.sIx_nat, List.drop_zero, Nat.min_eq_left h, Nat.sub_zero]
theorem cut_drop {α : Type} {ds : List α} {k : Nat} (h : k ≤ ds.length) : cutD ds (some (k : Int)) none = ds.drop k := by
  unfold cutD
  rw [HT.sIx_none, HT.sIx_nat, Nat.min_eq_left h]
  exact List.take_of_length_le (by simp)
theorem sl_take {l : List PT} {k : Nat} {a : Fl} {S : Store} (h : k ≤ l.length) : oSl (.tup (embs l), a) none (some (k : Int)) S = some (.tup (embs (l.take k)), .sh) := by
  show some (D.tup (cutD (embs l) _ _), Fl.sh) = _
  rw [cut_take (by rw [embs_map, List.length_map]; exact h), embs_map, embs_map, List.map_take]
theorem sl_drop {l : List PT} {k : Nat} {a : Fl} {S : Store} (h : k ≤ l.length) : oSl (.tup (embs l), a) (some (k : Int)) none S = some (.tup (embs (l.drop k)), .sh) := by
  show some (D.tup (cutD (embs l) _ _), Fl.sh) = _
  rw [cut_drop (by rw [embs_map, List.length_map]; exact h), embs_map, embs_map, List.map_drop]
local macro_rules | `(tactic| walk_at "ev") => `(tactic| try simp only [↓w_look, ↓w_opt_some, ↓w_cst, ↓w_nil, ↓w_cons, ↓w_tup, ↓w_lst, ↓w_T, ↓w_if, ↓DE.w_and, ↓DE.w_or, ↓w_not, ↓w_tand, ↓w_tor, ↓w_tnot, ↓w_op2, ↓w_op1, ↓w_opN, ↓w_b1, ↓w_b2, ↓w_chain, ↓w_call, ↓w_make, ↓w_prop, ↓w_own2, ↓w_eqO, ↓w_neO, ↓w_appO, ↓w_dictE, ↓w_fld, ↓w_lenO, ↓w_isi, ↓w_new, ↓w_noPart, ↓w_part, ↓w_sl, ↓w_seqI, ↓w_rng1, ↓w_lc, ↓w_lc0, ↓w_lc1, ↓w_dict0, ↓w_dict1, ↓w_dict, ↓w_get2, ↓w_join, ↓o_skip, ↓o_seq, ↓o_drop, ↓o_ret, ↓o_retN, ↓o_set, ↓o_own, ↓o_if, ↓o_asg, ↓o_par, ↓o_for, ↓o_for0, ↓o_forN, ↓o_put, ↓o_fldS, ↓w_body, ↓w_init, en0, self_eq, put_held, List.length_nil, ↓w_ok, ↓o_nx,
  lk_sh, lk_own, lk_int, lk_str, lk_tup, lk_bl, lk_non, lk_obj, all_nil, all_cons, v_int, v_bl, v_str, v_tup, v_lst, v_non, v_ins, v_dk, a_int, a_lst, a_tup, a_str, s_int, lt_int, le_int, gt_int, ge_int, m_lst, m_tup, len_tup, len_lst, ix_tup, ix_lst, at_0, at_1, at_2, at_3, q_str, q_int, nq_int, nq_bl, tupOf_lst, tupOf_tup, lstOf_lst, lstOf_tup, int_int, int_bl, max_int, min_int, asB_bl, asI_int, asIns_ins, two_eq, asDk_dk, key_str, key_int, Int.cast_ofNat_Int, Int.natCast_one, Int.natCast_zero, one_eq, rng1_eq, seqOf_own, seqOf_sh, seqOf_bor, seqOf_tup, seqOf_str, asObj_obj, asLst_lst, notR_bl,
  look0, looks, look1_sh, look1_bor, look1_own, look1_lend, lend2, lend_sh, lend_own, lend_bor, lend_mine, en_nil, en_cons, wi_nil, wi_cons, List.set_cons_zero, List.set_cons_succ, List.replicate_zero, List.replicate_succ, List.append_nil, List.nil_append, List.cons_append, List.map_cons, List.map_nil, List.length_cons, List.length_nil, Nat.reduceAdd, Nat.reduceLeDiff, sz_le, sz_lt, Option.map_some, Option.map_none, Option.some.injEq, exists_eq_left', Bool.and_true, Bool.true_and, in2, in3, in4, nin2, cut21h, sl42, sl43, sl21, sl22, sl11, sl4h2, sl4h3, any_bls, all_bls, max_ints, String.reduceBEq, Bool.or_false, Bool.false_or, Bool.or_true, Bool.true_or, Bool.or_self, pI_view, pI_asIns, pI_fold, pI_leak, getHeld, hd0, hd1, hd2, emb_leak, Bool.not_true, Bool.not_false, and_self, true_and, and_true, if_true, if_false, decide_eq_true_eq, Bool.false_eq_true, reduceCtorEq, ite_true, ite_false])
def LooseW (F : SF) (n : Nat) : Prop := ∀ (S X : Store) (T : Int) (t : PT) (f1 f2 : Fl), hgt t ≤ n → good t = true → units t ≤ 1000 → St S X T → T + 3 * units t < lim →
  WR (F [(.obj 1, lend f1), (emb t, f2)] S) fun r S' => ∃ s, r = (emb s, .sh) ∧ Loose t s ∧ St S' X (T + 3 * units t)
theorem loose_sem {E : Sem} {n : Nat} (hd : DrawW E.L_draw) (hs : LooseW E.L_loosened n) : LooseW (step E).L_loosened (n + 1) := by
  intro S X T t f1 f2 hh hg hu hS hT
  show WR (bodyF 7 (v_L_loosened E) _ _) _
  unfold v_L_loosened
  walk_at "ev"
  rw [ix0]
  walk_at "ev"
  -- the last draw
  have fin : ∀ (s : PT) (S1 : Store) (T1 : Int), wf s = true → norm s = t → units s + 1 ≤ 3 * units t → hgt s + 1 ≤ 3 * hgt t → St S1 X T1 → T1 + 1 ≤ T + 3 * units t →
      WR (E.L_draw [(.obj 1, lend f1), (.int 5, .sh)] S1) fun r S2 => ∃ i, r = (.int i, .sh) ∧ St S2 X (T + 3 * units t) ∧ Loose t (if decide (i = 0) = true then .row [s] else s) := by
    intro s S1 T1 w e u h hS1 hT1
    refine (hd S1 X T1 5 f1 hS1 (by omega) (by decide) (by decide)).mono ?_
    rintro _ S2 ⟨i, rfl, h0, h1, hS2⟩
    exact ⟨i, rfl, hS2.more (by omega), Loose.wrap hg w e u h _⟩
  have fin2 : ∀ {i : Int} {s0 : PT} {S2 : Store} {f : Fl}, f = .sh → Loose t (if decide (i = 0) = true then .row [s0] else s0) → St S2 X (T + 3 * units t) →
      if i = 0 then ∃ s, (D.tup [.str "row", .tup [emb s0]], Fl.sh) = (emb s, Fl.sh) ∧ Loose t s ∧ St S2 X (T + 3 * units t) else ∃ s, (emb s0, f) = (emb s, Fl.sh) ∧ Loose t s ∧ St S2 X (T + 3 * units t) := by
    intro i s0 S2 f hf L h2
    subst hf
    split
    · rename_i h
      rw [if_pos (by simp [h])] at L
      exact ⟨.row [s0], rfl, L, h2⟩
    · rename_i h
      rw [if_neg (by simp [h])] at L
      exact ⟨s0, rfl, L, h2⟩
  cases t with
  | do_ x =>
    simp only [wordP]
    walk_at "ev"
    refine (fin (.do_ x) S T (wf_good _ hg) rfl (by simp [units]) (by simp [hgt]) hS (by simp [units])).mono ?_
    rintro _ S2 ⟨i, rfl, hS2, L⟩
    walk_at "ev"
    exact fin2 (if_neg (lend_ne f2)) L hS2
  | ret x =>
    simp only [wordP]
    walk_at "ev"
    refine (fin (.ret x) S T (wf_good _ hg) rfl (by simp [units]) (by simp [hgt]) hS (by simp [units])).mono ?_
    rintro _ S2 ⟨i, rfl, hS2, L⟩
    walk_at "ev"
    exact fin2 (if_neg (lend_ne f2)) L hS2
  | go x =>
    simp only [wordP]
    walk_at "ev"
    refine (fin (.go x) S T (wf_good _ hg) rfl (by simp [units]) (by simp [hgt]) hS (by simp [units])).mono ?_
    rintro _ S2 ⟨i, rfl, hS2, L⟩
    walk_at "ev"
    exact fin2 (if_neg (lend_ne f2)) L hS2
  | end_ =>
    simp only [wordP]
    walk_at "ev"
    refine (fin (.end_) S T (wf_good _ hg) rfl (by simp [units]) (by simp [hgt]) hS (by simp [units])).mono ?_
    rintro _ S2 ⟨i, rfl, hS2, L⟩
    walk_at "ev"
    exact fin2 (if_neg (lend_ne f2)) L hS2
  | if_ x y z =>
    have hg' := hg
    simp only [good, Bool.and_eq_true] at hg'
    have hu' := hu
    have hT' := hT
    have hh' := hh
    simp only [units] at hu' hT'
    simp only [hgt] at hh'
    simp only [wordP, emb]
    walk_at "ev"
    refine (hs S X T y _ _ (by omega) hg'.1.2 (by omega) hS (by omega)).mono ?_
    rintro _ S1 ⟨y', rfl, Ly, hS1⟩
    walk_at "ev"
    refine (hs S1 X _ z _ _ (by omega) hg'.2 (by omega) hS1 (by omega)).mono ?_
    rintro _ S2 ⟨z', rfl, Lz, hS2⟩
    walk_at "ev"
    have w : wf (.if_ x y' z') = true := by simp only [wf, hg'.1.1, Ly.w, Lz.w, Bool.and_self]
    refine (fin (.if_ x y' z') S2 _ w (by rw [norm, Ly.n, Lz.n]) (by have := Ly.u; have := Lz.u; simp only [units]; omega) (by have := Ly.h; have := Lz.h; simp only [hgt]; omega) hS2 (by simp only [units]; omega)).mono ?_
    rintro _ S3 ⟨i, rfl, hS3, L⟩
    walk_at "ev"
    exact fin2 rfl L hS3
  | while_ x v y =>
    have hg' := hg
    simp only [good, Bool.and_eq_true] at hg'
    have hu' := hu
    have hT' := hT
    have hh' := hh
    simp only [units] at hu' hT'
    simp only [hgt] at hh'
    simp only [wordP, emb]
    walk_at "ev"
    refine (hs S X T y _ _ (by omega) hg'.2 (by omega) hS (by omega)).mono ?_
    rintro _ S1 ⟨y', rfl, Ly, hS1⟩
    walk_at "ev"
    have w : wf (.while_ x v y') = true := by simp only [wf, hg'.1, Ly.w, Bool.and_self]
    refine (fin (.while_ x v y') S1 _ w (by rw [norm, Ly.n]) (by have := Ly.u; simp only [units]; omega) (by have := Ly.h; simp only [hgt]; omega) hS1 (by simp only [units]; omega)).mono ?_
    rintro _ S3 ⟨i, rfl, hS3, L⟩
    walk_at "ev"
    exact fin2 rfl L hS3
  | forever y =>
    have hg' := hg
    simp only [good, Bool.and_eq_true] at hg'
    have hu' := hu
    have hT' := hT
    have hh' := hh
    simp only [units] at hu' hT'
    simp only [hgt] at hh'
    simp only [wordP, emb]
    walk_at "ev"
    refine (hs S X T y _ _ (by omega) hg'.2 (by omega) hS (by omega)).mono ?_
    rintro _ S1 ⟨y', rfl, Ly, hS1⟩
    walk_at "ev"
    have w : wf (.forever y') = true := by simp only [wf, Ly.n, hg'.1, Ly.w, Bool.and_self]
    refine (fin (.forever y') S1 _ w (by rw [norm, Ly.n]) (by have := Ly.u; simp only [units]; omega) (by have := Ly.h; simp only [hgt]; omega) hS1 (by simp only [units]; omega)).mono ?_
    rintro _ S3 ⟨i, rfl, hS3, L⟩
    walk_at "ev"
    exact fin2 rfl L hS3
  | row l =>
    have hu' := hu
    have hT' := hT
    have hh' := hh
    simp only [units] at hu' hT'
    simp only [hgt] at hh'
    have hg' := hg
    simp only [good, Bool.and_eq_true, goods_all, List.all_eq_true, Bool.not_eq_true'] at hg'
    have rl := row_unitsL l
    simp only [wordP, emb]
    walk_at "ev"
    refine ⟨by rw [embs_map, List.length_map]; exact lt_line (by omega), ?_⟩
    refine (w_lcP (fun acc S' => ∃ k, acc = embs k ∧ k.length ≤ l.length ∧ wfs k = true ∧ norms k = l.take k.length ∧ unitsL k ≤ 3 * unitsL (l.take k.length) ∧ hgtL k ≤ 3 * hgtL (l.take k.length) ∧ St S' X (T + 3 * unitsL (l.take k.length))) ⟨[], rfl, by simp, rfl, by simp [norms], by simp [unitsL], by simp [hgtL], by simpa [unitsL] using hS⟩ ?_).mono ?_
    · rintro acc d S2 hacc ⟨k, rfl, k1, k2, k3, k4, k5, hS2⟩
      rw [embs_map l, List.getElem?_map, Option.map_eq_some_iff] at hacc
      obtain ⟨s, hs1, rfl⟩ := hacc
      rw [show (embs k).length = k.length by rw [embs_map, List.length_map]] at hs1
      have sm := List.mem_of_getElem? hs1
      obtain ⟨hnl, hne⟩ := List.getElem?_eq_some_iff.mp hs1
      have h1 := hgtL_mem sm
      have tk : l.take (k.length + 1) = l.take k.length ++ [s] := by rw [List.take_succ_eq_append_getElem hnl, hne]
      have ub : unitsL (l.take k.length) + units s ≤ unitsL l := by
        have := unitsL_td l (k.length + 1)
        rw [tk, unitsL_app] at this
        simp only [unitsL] at this
        omega
      walk_at "ev"
      refine (hs S2 X _ s _ _ (by omega) (hg'.2 s sm).2 (by omega) hS2 (by omega)).mono ?_
      rintro _ S3 ⟨s', rfl, Ls, hS3⟩
      walk_at "ev"
      refine ⟨k ++ [s'], by simp [embs_map], by simp; omega, ?_, ?_, ?_, ?_, ?_⟩
      · rw [wfs_app, k2]; simp [wfs, Ls.w]
      · rw [norms_map, List.map_append, ← norms_map, k3, List.length_append, show k.length + [s'].length = k.length + 1 from rfl, tk]
        simp [Ls.n]
      · rw [List.length_append, show k.length + [s'].length = k.length + 1 from rfl, tk, unitsL_app, unitsL_app]
        have := Ls.u
        simp only [unitsL]
        omega
      · rw [List.length_append, show k.length + [s'].length = k.length + 1 from rfl, tk, hgtL_app, hgtL_app]
        have := Ls.h
        simp only [hgtL]
        omega
      · rw [List.length_append, show k.length + [s'].length = k.length + 1 from rfl, tk, unitsL_app]
        simp only [unitsL]
        exact hS3.more (by omega)
    · rintro _ S2 ⟨hn, k, rfl, k1, k2, k3, k4, k5, hS2⟩
      have kl : k.length = l.length := by rw [embs_map, embs_map, List.length_map, List.length_map] at hn; exact hn
      rw [kl, List.take_length] at k3 k4 k5 hS2
      have ek : (embs k).length = k.length := by rw [embs_map, List.length_map]
      walk_at "ev"
      rw [ek]
      have fk : fl k = joinL l := by unfold fl; rw [k3]
      have gr := (good_row hg).2
      have finR : ∀ (K : List PT) (S4 : Store), Br k K → St S4 X (T + 3 * unitsL l + 2) → WR (E.L_draw [(.obj 1, lend f1), (.int 5, .sh)] S4) fun r S5 => ∃ i, r = (.int i, .sh) ∧ St S5 X (T + 3 * units (PT.row l)) ∧ Loose (.row l) (if decide (i = 0) = true then .row [.row K] else .row K) := by
        intro K S4 B h4
        have := B.u
        have := B.h
        exact fin (.row K) S4 _ B.w (by rw [norm_row, B.f, fk]; exact gr) (by simp only [units]; omega) (by simp only [hgt]; omega) h4 (by simp only [units]; omega)
      refine (hd S2 X _ (k.length + 1) _ hS2 (by omega) (by omega) (by omega)).mono ?_
      rintro _ S3 ⟨i, rfl, i0, i1, hS3⟩
      obtain ⟨j, rfl⟩ := Int.eq_ofNat_of_zero_le i0
      have hj : j ≤ k.length := by omega
      walk_at "ev"
      refine (hd S3 X _ 4 _ hS3 (by omega) (by omega) (by omega)).mono ?_
      rintro _ S4 ⟨v, rfl, v0, v1, hS4⟩
      have hS4' : St S4 X (T + 3 * unitsL l + 2) := hS4.more (by omega)
      have e1 : (embs (k.drop j)).length ≤ k.length := by rw [embs_map, List.length_map, List.length_drop]; omega
      have e2 : (embs (k.take j)).length ≤ k.length := by rw [embs_map, List.length_map, List.length_take]; omega
      walk_at "ev"
      split
      · rw [sl_take hj]
        walk_at "ev"
        rw [sl_drop hj]
        walk_at "ev"
        rw [if_pos (small (by omega))]
        walk_at "ev"
        refine (finR (way0 k j) S4 (br0 k2 j) hS4').mono ?_
        rintro _ S5 ⟨i, rfl, hS5, L⟩
        walk_at "ev"
        rw [show D.tup [.str "row", .tup (embs (k.take j))] :: embs (k.drop j) = embs (way0 k j) from rfl]
        exact fin2 rfl L hS5
      · split
        · rw [sl_take hj]
          walk_at "ev"
          rw [if_pos (small (by omega))]
          walk_at "ev"
          rw [sl_drop hj]
          walk_at "ev"
          rw [if_pos (small (by simp; omega))]
          walk_at "ev"
          refine (finR (way1 k j) S4 (br1 k2 j) hS4').mono ?_
          rintro _ S5 ⟨i, rfl, hS5, L⟩
          walk_at "ev"
          have ew : embs (k.take j) ++ [D.tup [.str "row", .tup []]] ++ embs (k.drop j) = embs (way1 k j) := by simp [way1, embs_map, emb, embs]
          first
            | (rw [ew]; exact fin2 rfl L hS5)
            | (simp only [List.append_assoc, List.cons_append, List.nil_append] at ew; rw [ew]; exact fin2 rfl L hS5)
        · split
          · rw [sl_take hj]
            walk_at "ev"
            rw [sl_drop hj]
            walk_at "ev"
            rw [if_pos (small (by omega))]
            walk_at "ev"
            refine (finR (way2 k j) S4 (br2 k2 j) hS4').mono ?_
            rintro _ S5 ⟨i, rfl, hS5, L⟩
            walk_at "ev"
            rw [show embs (k.take j) ++ [D.tup [.str "row", .tup (embs (k.drop j))]] = embs (way2 k j) by simp [way2, embs_map, emb]]
            exact fin2 rfl L hS5
          · refine (finR k S4 (br3 k2) hS4').mono ?_
            rintro _ S5 ⟨i, rfl, hS5, L⟩
            walk_at "ev"
            exact fin2 rfl L hS5
end K25

set_option maxRecDepth 100000
set_option maxHeartbeats 2000000
namespace K25
open DL DE
theorem seq_P {s t : SS} {ρ : Loc} {S : Store} {k : Ks} (P : Loc → Store → Prop) (h1 : WO (s ρ S) { k with N := P }) (h2 : ∀ ρ' S', P ρ' S' → WO (t ρ' S') k) : WO (sSeq s t ρ S) k := by
  rw [o_seq]
  cases e : s ρ S with
  | nx ρ1 S1 => rw [e] at h1; exact h2 _ _ h1
  | rt r S1 => rw [e] at h1; exact h1
  | bk ρ1 S1 => rw [e] at h1; exact h1
  | ct ρ1 S1 => rw [e] at h1; exact h1
  | ex x ρ1 S1 => rw [e] at h1; exact h1
  | bad => rw [e] at h1; exact h1
local macro_rules | `(tactic| walk_at "ev") => `(tactic| try simp only [↓w_look, ↓w_opt_some, ↓w_cst, ↓w_nil, ↓w_cons, ↓w_tup, ↓w_lst, ↓w_T, ↓w_if, ↓DE.w_and, ↓DE.w_or, ↓w_not, ↓w_tand, ↓w_tor, ↓w_tnot, ↓w_op2, ↓w_op1, ↓w_opN, ↓w_b1, ↓w_b2, ↓w_chain, ↓w_call, ↓w_make, ↓w_prop, ↓w_own2, ↓w_eqO, ↓w_neO, ↓w_appO, ↓w_dictE, ↓w_fld, ↓w_lenO, ↓w_isi, ↓w_new, ↓w_noPart, ↓w_part, ↓w_sl, ↓w_seqI, ↓w_rng1, ↓w_lc, ↓w_lc0, ↓w_lc1, ↓w_dict0, ↓w_dict1, ↓w_dict, ↓w_get2, ↓w_join, ↓o_skip, ↓o_seq, ↓o_drop, ↓o_ret, ↓o_retN, ↓o_set, ↓o_own, ↓o_if, ↓o_asg, ↓o_par, ↓o_for, ↓o_for0, ↓o_forN, ↓o_put, ↓o_fldS, ↓w_body, ↓w_init, en0, self_eq, put_held, List.length_nil, ↓w_ok, ↓o_nx,
  lk_sh, lk_own, lk_int, lk_str, lk_tup, lk_bl, lk_non, lk_obj, all_nil, all_cons, v_int, v_bl, v_str, v_tup, v_lst, v_non, v_ins, v_dk, a_int, a_lst, a_tup, a_str, s_int, lt_int, le_int, gt_int, ge_int, m_lst, m_tup, len_tup, len_lst, ix_tup, ix_lst, at_0, at_1, at_2, at_3, q_str, q_int, nq_int, nq_bl, tupOf_lst, tupOf_tup, lstOf_lst, lstOf_tup, int_int, int_bl, max_int, min_int, asB_bl, asI_int, asIns_ins, two_eq, asDk_dk, key_str, key_int, Int.cast_ofNat_Int, Int.natCast_one, Int.natCast_zero, one_eq, rng1_eq, seqOf_own, seqOf_sh, seqOf_bor, seqOf_tup, seqOf_str, asObj_obj, asLst_lst, notR_bl,
  look0, looks, look1_sh, look1_bor, look1_own, look1_lend, lend2, lend_sh, lend_own, lend_bor, lend_mine, en_nil, en_cons, wi_nil, wi_cons, List.set_cons_zero, List.set_cons_succ, List.replicate_zero, List.replicate_succ, List.append_nil, List.nil_append, List.cons_append, List.map_cons, List.map_nil, List.length_cons, List.length_nil, Nat.reduceAdd, Nat.reduceLeDiff, sz_le, sz_lt, Option.map_some, Option.map_none, Option.some.injEq, exists_eq_left', Bool.and_true, Bool.true_and, in2, in3, in4, nin2, nq_str, cut21h, sl42, sl43, sl21, sl22, sl11, sl4h2, sl4h3, any_bls, all_bls, max_ints, String.reduceBEq, Bool.or_false, Bool.false_or, Bool.or_true, Bool.true_or, Bool.or_self, pI_view, pI_asIns, pI_fold, pI_leak, getHeld, hd0, hd1, hd2, emb_leak, Bool.not_true, Bool.not_false, and_self, true_and, and_true, if_true, if_false, decide_eq_true_eq, Bool.false_eq_true, reduceCtorEq, ite_true, ite_false])
/-- one thing otherwise -/
structure Oth (t s : PT) : Prop where
  g : good s = true
  u : units s ≤ units t + 2
  d : deep s ≤ deep t
def OtherW (F : SF) (n : Nat) : Prop := ∀ (S X : Store) (T : Int) (t : PT) (f1 f2 : Fl), hgt t ≤ n → good t = true → units t ≤ 1000 → deep t ≤ 30 → St S X T → T + 30 * hgt t < lim →
  WR (F [(.obj 1, lend f1), (emb t, f2)] S) fun r S' => ∃ s, r = (emb s, .sh) ∧ Oth t s ∧ St S' X (T + 30 * hgt t)
def swap (l : List PT) (i : Nat) (s : PT) : List PT := l.take i ++ [s] ++ l.drop (i + 1)
theorem ne_empty {l : List PT} {a b : Fl} {S : Store} (h : ∀ t ∈ l, good t = true ∧ deep t ≤ 30) : oNe (.lst (embs l), a) (.lst [], b) S = some (.bl (!l.isEmpty), .sh) := by
  have d : deps (embs l) ≤ 90 := by
    clear a b S
    induction l with
    | nil => simp [embs, deps]
    | cons t r ih =>
      have := (dep_emb t (h t List.mem_cons_self).1).1
      have := (h t List.mem_cons_self).2
      have := ih fun s hs => h s (List.mem_cons_of_mem _ hs)
      simp only [embs, deps]
      omega
  have e : deq (.lst (embs l)) (.lst []) = l.isEmpty := by cases l <;> simp [embs, deq, q_cn, q_nn]
  unfold oNe
  rw [v_lst, v_lst, if_pos ⟨by simp only [plain]; exact plains_embs l, rfl, by simp only [dep]; omega⟩, e]
theorem slL_take {l : List PT} {k : Nat} {a : Fl} {S : Store} (h : k ≤ l.length) : oSl (.lst (embs l), a) none (some (k : Int)) S = some (.lst (embs (l.take k)), .own) := by
  show some (D.lst (cutD (embs l) _ _), Fl.own) = _
  rw [cut_take (by rw [embs_map, List.length_map]; exact h), embs_map, embs_map, List.map_take]
theorem slL_drop {l : List PT} {k : Nat} {a : Fl} {S : Store} (h : k ≤ l.length) : oSl (.lst (embs l), a) (some (k : Int)) none S = some (.lst (embs (l.drop k)), .own) := by
  show some (D.lst (cutD (embs l) _ _), Fl.own) = _
  rw [cut_drop (by rw [embs_map, List.length_map]; exact h), embs_map, embs_map, List.map_drop]
theorem atL {l : List PT} {i : Nat} {s : PT} (h : l[i]? = some s) : L2.atI (embs l) (i : Int) = some (emb s) := by
  have hl := (List.getElem?_eq_some_iff.mp h).1
  unfold L2.atI L2.ixN
  rw [embs_map, List.length_map]
  have he := (List.getElem?_eq_some_iff.mp h).2
  simp [hl, he]
theorem hgt_pos (t : PT) : 1 ≤ hgt t := by cases t <;> simp [hgt] <;> omega
theorem swap_units {l : List PT} {i : Nat} {a s : PT} (h : l[i]? = some a) : unitsL (swap l i s) + units a = unitsL l + units s := by
  obtain ⟨hl, rfl⟩ := List.getElem?_eq_some_iff.mp h
  have := unitsL_td l (i + 1)
  rw [List.take_succ_eq_append_getElem hl, unitsL_app] at this
  simp only [unitsL] at this
  simp only [swap, unitsL_app, unitsL]
  omega
theorem swap_deep {l : List PT} {i : Nat} {a s : PT} (h : l[i]? = some a) (d : deep s ≤ deep a) : deepL (swap l i s) ≤ deepL l := by
  obtain ⟨hl, rfl⟩ := List.getElem?_eq_some_iff.mp h
  have e : deepL l = deepL (l.take (i + 1) ++ l.drop (i + 1)) := by rw [List.take_append_drop]
  rw [List.take_succ_eq_append_getElem hl, deepL_app, deepL_app] at e
  simp only [deepL] at e
  simp only [swap, deepL_app, deepL]
  omega
theorem swap_good {l : List PT} {i : Nat} {s : PT} (h : ∀ t ∈ l, good t = true) (g : good s = true) : ∀ t ∈ swap l i s, good t = true := by
  intro t ht
  simp only [swap, List.mem_append, List.mem_cons, List.not_mem_nil, or_false] at ht
  rcases ht with (ht | rfl) | ht
  · exact h t (List.mem_of_mem_take ht)
  · exact g
  · exact h t (List.mem_of_mem_drop ht)
theorem oth_row {l : List PT} {i : Nat} {a s : PT} (g : good (.row l) = true) (h : l[i]? = some a) (o : Oth a s) : Oth (.row l) (joinP (swap l i s)) := by
  obtain ⟨g1, _⟩ := good_row g
  have u1 := swap_units (s := s) h
  have d1 := swap_deep h o.d
  have u2 := units_joinP (swap l i s)
  have := o.u
  refine ⟨good_joinP (swap_good (fun t ht => (g1 t ht).2) o.g), by simp only [units]; omega, ?_⟩
  rw [deep_joinP]
  simp only [deep]
  omega
theorem insP_deep {t s : PT} (h : s ∈ insP t) : deep s ≤ deep t := by
  cases t <;> simp only [insP, List.mem_cons, List.not_mem_nil, or_false] at h <;> simp only [deep]
  · rcases h with rfl | rfl <;> omega
  · subst h; omega
  · subst h; omega
  · have := deepL_mem h; omega
theorem swap_embs {l : List PT} {i : Nat} {s : PT} : embs (l.take i) ++ [emb s] ++ embs (l.drop (i + 1)) = embs (swap l i s) := by simp [swap, embs_map]
theorem rev_l {l : List PT} {a : Fl} {S : Store} : oRev (.lst (embs l), a) S = some (.lst (embs l.reverse), .own) := by
  show some (D.lst (embs l).reverse, Fl.own) = _
  rw [embs_map, embs_map, List.map_reverse]
theorem units_rev (l : List PT) : unitsL l.reverse = unitsL l := by
  induction l with
  | nil => rfl
  | cons a r ih => rw [List.reverse_cons, unitsL_app, ih]; simp only [unitsL]; omega
theorem deep_rev (l : List PT) : deepL l.reverse = deepL l := by
  induction l with
  | nil => rfl
  | cons a r ih => rw [List.reverse_cons, deepL_app, ih]; simp only [deepL]; omega
theorem other_sem {E : Sem} {n : Nat} (hi : LInsOk E.L_insides) (hj : JoinOk E.L_joined) (hd : DrawW E.L_draw) (hp : PickW E.L_pick) (hn : NameW E.L_name) (hs : OtherW E.L_other n) : OtherW (step E).L_other (n + 1) := by
  intro S X T t f1 f2 hh hg hu hdp hS hT
  have h1 := hgt_pos t
  show WR (bodyF 7 (v_L_other E) _ _) _
  unfold v_L_other
  rw [w_body]
  refine seq_P (fun ρ S1 => ρ = [some (.obj 1, lend f1), some (emb t, lend f2), some (.str (wordP t), .sh), none, none, none, none] ∧ S1 = S) ?_ ?_
  · walk_at "ev"
    rw [ix0]
    walk_at "ev"
  rintro _ S0 ⟨rfl, rfl⟩
  refine seq_P (fun ρ S1 => ρ = [some (.obj 1, lend f1), some (emb t, lend f2), some (.str (wordP t), .sh), some (.lst (embs (insP t)), .sh), none, none, none] ∧ S1 = S0) ?_ ?_
  · walk_at "ev"
    rw [hi]
    walk_at "ev"
  rintro _ S9 ⟨rfl, rfl⟩
  refine seq_P (fun ρ S1 => ∃ x4 x5, ρ = [some (.obj 1, lend f1), some (emb t, lend f2), some (.str (wordP t), .sh), some (.lst (embs (insP t)), .sh), x4, x5, none] ∧ St S1 X (T + 30 * hgt t - 28)) ?_ ?_
  · have ig : ∀ s ∈ insP t, good s = true ∧ deep s ≤ 30 := fun s hs => ⟨insP_good hg hs, Nat.le_trans (insP_deep hs) hdp⟩
    have rl := row_units t
    walk_at "ev"
    rw [ne_empty ig]
    walk_at "ev"
    by_cases hE : insP t = []
    · rw [if_neg (by rw [hE]; simp)]
      exact ⟨_, _, rfl, hS.more (by omega)⟩
    rw [if_pos (by cases h : insP t <;> simp_all)]
    have hlen : 0 < (insP t).length := by cases h : insP t <;> simp_all
    have hel : (embs (insP t)).length = (insP t).length := by rw [embs_map, List.length_map]
    rw [hel]
    refine (hd S9 X T 3 _ hS (by omega) (by decide) (by decide)).mono ?_
    rintro _ S1 ⟨i, rfl, _, _, hS1⟩
    walk_at "ev"
    by_cases hi0 : ¬ (0 < i)
    · rw [if_neg hi0]
      exact ⟨_, _, rfl, hS1.more (by omega)⟩
    rw [if_pos (Decidable.not_not.mp hi0)]
    refine (hd S1 X _ (insP t).length _ hS1 (by omega) (by omega) (by omega)).mono ?_
    rintro _ S2 ⟨j, rfl, j0, j1, hS2⟩
    obtain ⟨q, rfl⟩ := Int.eq_ofNat_of_zero_le j0
    have hq : q < (insP t).length := by omega
    have hg1 : (insP t)[q]? = some (insP t)[q] := List.getElem?_eq_getElem hq
    have hm := List.getElem_mem hq
    generalize (insP t)[q] = c at hg1 hm
    have hc := insP_hgt hm
    have dc := (ig c hm).2
    walk_at "ev"
    rw [slL_take (by omega)]
    walk_at "ev"
    rw [atL hg1]
    walk_at "ev"
    refine (hs S2 X _ c _ _ (by omega) (ig c hm).1 (by have := insP_units hm; omega) (ig c hm).2 hS2 (by omega)).mono ?_
    rintro _ S3 ⟨s, rfl, O, hS3⟩
    walk_at "ev"
    rw [if_pos (small (by rw [embs_map, List.length_map, List.length_take]; omega))]
    walk_at "ev"
    rw [show (q : Int) + 1 = ((q + 1 : Nat) : Int) by omega, slL_drop (by omega)]
    walk_at "ev"
    rw [if_pos (small (by simp [embs_map]; omega))]
    walk_at "ev"
    first
      | rw [swap_embs]
      | rw [← List.append_assoc, swap_embs]
      | rw [← swap_embs]
    have hS4 : St S3 X (T + 30 * hgt t - 28) := hS3.more (by omega)
    cases t with
    | do_ x => exact absurd rfl hE
    | ret x => exact absurd rfl hE
    | go x => exact absurd rfl hE
    | end_ => exact absurd rfl hE
    | row l =>
      simp only [wordP, insP] at *
      walk_at "ev"
      have gr := (good_row hg).1
      have ow := oth_row hg hg1 O
      have uu := swap_units (s := s) hg1
      rw [hj _ _ _ (swap_good (fun t ht => (gr t ht).2) O.g) (by have := units_partsL (swap l q s); have := O.u; simp only [units] at hu; omega)]
      walk_at "ev"
      exact ⟨_, rfl, ow, hS4.more (by omega)⟩
    | if_ x y z =>
      simp only [wordP, insP] at *
      have hg' := hg
      simp only [good, Bool.and_eq_true] at hg'
      have := O.u
      have := O.d
      have h2 : q = 0 ∨ q = 1 := by simp at hq; omega
      walk_at "ev"
      simp only [emb]
      walk_at "ev"
      rw [show (4 : Int) - 2 = 2 from rfl]
      walk_at "ev"
      rcases h2 with rfl | rfl
      · cases hg1
        simp only [swap, List.take_zero, List.nil_append, List.drop_succ_cons, List.drop_zero, List.cons_append, embs]
        walk_at "ev"
        exact ⟨.if_ x s z, rfl, ⟨by simp only [good, hg'.1.1, O.g, hg'.2, Bool.and_self], by simp only [units]; omega, by simp only [deep]; omega⟩, hS4.more (by omega)⟩
      · cases hg1
        simp only [swap, List.take_succ_cons, List.take_zero, List.nil_append, List.drop_succ_cons, List.drop_zero, List.cons_append, List.drop_nil, embs]
        walk_at "ev"
        exact ⟨.if_ x y s, rfl, ⟨by simp only [good, hg'.1.1, hg'.1.2, O.g, Bool.and_self], by simp only [units]; omega, by simp only [deep]; omega⟩, hS4.more (by omega)⟩
    | while_ x w y =>
      simp only [wordP, insP] at *
      have hg' := hg
      simp only [good, Bool.and_eq_true] at hg'
      have := O.u
      have := O.d
      have h2 : q = 0 := by simp at hq; omega
      subst h2
      cases hg1
      walk_at "ev"
      simp only [emb]
      walk_at "ev"
      rw [show (4 : Int) - 1 = 3 from rfl]
      walk_at "ev"
      simp only [swap, List.take_zero, List.nil_append, List.drop_succ_cons, List.drop_zero, List.cons_append, embs]
      walk_at "ev"
      exact ⟨.while_ x w s, rfl, ⟨by simp only [good, hg'.1, O.g, Bool.and_self], by simp only [units]; omega, by simp only [deep]; omega⟩, hS4.more (by omega)⟩
    | forever y =>
      simp only [wordP, insP] at *
      have hg' := hg
      simp only [good, Bool.and_eq_true] at hg'
      have := O.u
      have := O.d
      have h2 : q = 0 := by simp at hq; omega
      subst h2
      cases hg1
      walk_at "ev"
      simp only [swap, List.take_zero, List.nil_append, List.drop_succ_cons, List.drop_zero, List.cons_append, embs]
      walk_at "ev"
      rw [ne_nil O.g (by omega)]
      walk_at "ev"
      by_cases hN : isNil s = true
      · rw [if_neg (by rw [hN]; simp)]
        exact ⟨_, _, rfl, hS4⟩
      rw [if_pos (by simpa using hN)]
      simp only [emb]
      walk_at "ev"
      rw [show (2 : Int) - 1 = 1 from rfl]
      walk_at "ev"
      rw [show ∀ a, oSl (.tup [D.str "forever", emb c], a) none (some 1) S3 = some (.tup [D.str "forever"], .sh) from fun _ => rfl]
      walk_at "ev"
      exact ⟨.forever s, rfl, ⟨by simp only [good, O.g, Bool.and_true, Bool.not_eq_true']; simpa using hN, by simp only [units]; omega, by simp only [deep]; omega⟩, hS4.more (by omega)⟩
  rintro _ S1 ⟨x4, x5, rfl, hS1⟩
  walk_at "ev"
  refine (hn S1 X _ _ hS1 (by omega)).mono ?_
  rintro _ S2 ⟨nm, rfl, hnm, hS2⟩
  walk_at "ev"
  have leafO : ∀ p : PT, good p = true → units p = 1 → deep p = 1 → Oth t p := fun p a b c => ⟨a, by omega, by rw [c]; exact good_deep1 t⟩
  have word3 : ∀ f, WR (E.L_pick [(.obj 1, lend f1), (.lst [.str "do", .str "return", .str "go"], f)] S2) fun r S' => ∃ a p, r = (.str a, .sh) ∧ emb p = .tup [.str a, .str nm] ∧ good p = true ∧ units p = 1 ∧ deep p = 1 ∧ St S' X (T + 30 * hgt t) := fun f => by
    refine (hp S2 X _ f1 f _ [.str "do", .str "return", .str "go"] hS2 (by omega) rfl (by decide) (by decide)).mono ?_
    rintro _ S3 ⟨a, rfl, ha, hS3⟩
    simp only [List.mem_cons, List.not_mem_nil, or_false] at ha
    rcases ha with rfl | rfl | rfl
    · exact ⟨_, .do_ nm, rfl, rfl, hnm, rfl, rfl, hS3.more (by omega)⟩
    · exact ⟨_, .ret nm, rfl, rfl, hnm, rfl, rfl, hS3.more (by omega)⟩
    · exact ⟨_, .go nm, rfl, rfl, hnm, rfl, rfl, hS3.more (by omega)⟩
  cases t with
  | do_ x =>
    simp only [wordP]
    walk_at "ev"
    refine (word3 _).mono ?_
    rintro _ S3 ⟨a, p, rfl, e, g, u, d, hS3⟩
    walk_at "ev"
    exact ⟨p, by rw [e], leafO p g u d, hS3⟩
  | ret x =>
    simp only [wordP]
    walk_at "ev"
    refine (word3 _).mono ?_
    rintro _ S3 ⟨a, p, rfl, e, g, u, d, hS3⟩
    walk_at "ev"
    exact ⟨p, by rw [e], leafO p g u d, hS3⟩
  | go x =>
    simp only [wordP]
    walk_at "ev"
    refine (word3 _).mono ?_
    rintro _ S3 ⟨a, p, rfl, e, g, u, d, hS3⟩
    walk_at "ev"
    exact ⟨p, by rw [e], leafO p g u d, hS3⟩
  | end_ =>
    simp only [wordP]
    walk_at "ev"
    exact ⟨.do_ nm, rfl, leafO _ hnm rfl rfl, hS2.more (by omega)⟩
  | forever y =>
    simp only [wordP]
    walk_at "ev"
    exact ⟨.do_ nm, rfl, leafO _ hnm rfl rfl, hS2.more (by omega)⟩
  | row l =>
    simp only [wordP, insP]
    walk_at "ev"
    rw [rev_l]
    walk_at "ev"
    have gr := (good_row hg).1
    have rl := row_unitsL l
    simp only [units] at hu
    refine (hp S2 X _ f1 .own _ [.tup [.str "end"], .tup [.str "do", .str nm], .tup [.str "row", .tup []]] hS2 (by omega) rfl (by simp) (by simp)).mono ?_
    rintro _ S3 ⟨a, rfl, ha, hS3⟩
    obtain ⟨p, rfl, gp, up, dp⟩ : ∃ p : PT, a = emb p ∧ good p = true ∧ units p = 1 ∧ deep p = 1 := by
      simp only [List.mem_cons, List.not_mem_nil, or_false] at ha
      rcases ha with rfl | rfl | rfl
      · exact ⟨.end_, rfl, rfl, rfl, rfl⟩
      · exact ⟨.do_ nm, rfl, hnm, rfl, rfl⟩
      · exact ⟨.row [], rfl, rfl, rfl, rfl⟩
    walk_at "ev"
    rw [if_pos (small (by rw [embs_map, List.length_map, List.length_reverse]; omega))]
    walk_at "ev"
    rw [show embs l.reverse ++ [emb p] = embs (l.reverse ++ [p]) by simp [embs_map]]
    have ur : unitsL l.reverse = unitsL l := units_rev l
    have dr : deepL l.reverse = deepL l := deep_rev l
    have ua : unitsL (l.reverse ++ [p]) = unitsL l + 1 := by rw [unitsL_app, ur]; simp [unitsL, up]
    have da : deepL (l.reverse ++ [p]) = max (deepL l) 1 := by rw [deepL_app, dr]; simp [deepL, dp]
    have ga : ∀ t ∈ l.reverse ++ [p], good t = true := by
      intro t ht
      simp only [List.mem_append, List.mem_reverse, List.mem_cons, List.not_mem_nil, or_false] at ht
      rcases ht with ht | rfl
      · exact (gr t ht).2
      · exact gp
    rw [hj _ _ _ ga (by have := units_partsL (l.reverse ++ [p]); omega)]
    walk_at "ev"
    refine ⟨_, rfl, ⟨good_joinP ga, ?_, ?_⟩, hS3.more (by omega)⟩
    · have := units_joinP (l.reverse ++ [p]); simp only [units]; omega
    · rw [deep_joinP, da]; simp only [deep]; omega
  | if_ x y z =>
    have hg' := hg
    simp only [good, Bool.and_eq_true] at hg'
    have dy := good_deep1 y
    have dz := good_deep1 z
    have uy := units1 y
    have uz := units1 z
    simp only [wordP, emb]
    walk_at "ev"
    refine (hp S2 X _ f1 .own _ [emb (.if_ x z y), emb (.if_ nm y z), emb (.if_ x y .end_)] hS2 (by omega) rfl (by simp) (by simp)).mono ?_
    rintro _ S3 ⟨a, rfl, ha, hS3⟩
    obtain ⟨p, rfl, O⟩ : ∃ p : PT, a = emb p ∧ Oth (.if_ x y z) p := by
      simp only [List.mem_cons, List.not_mem_nil, or_false] at ha
      rcases ha with rfl | rfl | rfl
      · exact ⟨_, rfl, by simp only [good, hg'.1.1, hg'.1.2, hg'.2, Bool.and_self], by simp only [units]; omega, by simp only [deep]; omega⟩
      · exact ⟨_, rfl, by simp only [good, hnm, hg'.1.2, hg'.2, Bool.and_self], by simp only [units]; omega, by simp only [deep]; omega⟩
      · exact ⟨_, rfl, by simp only [good, hg'.1.1, hg'.1.2, Bool.and_self], by simp only [units]; omega, by simp only [deep]; omega⟩
    walk_at "ev"
    exact ⟨p, rfl, O, hS3.more (by omega)⟩
  | while_ x w y =>
    have hg' := hg
    simp only [good, Bool.and_eq_true] at hg'
    have dy := good_deep1 y
    have uy := units1 y
    simp only [wordP, emb]
    walk_at "ev"
    refine (hp S2 X _ f1 .own _ [emb (.while_ x (!w) y), emb (.while_ nm w y), emb (.forever .end_)] hS2 (by omega) rfl (by simp) (by simp)).mono ?_
    rintro _ S3 ⟨a, rfl, ha, hS3⟩
    obtain ⟨p, rfl, O⟩ : ∃ p : PT, a = emb p ∧ Oth (.while_ x w y) p := by
      simp only [List.mem_cons, List.not_mem_nil, or_false] at ha
      rcases ha with rfl | rfl | rfl
      · exact ⟨_, rfl, by simp only [good, hg'.1, hg'.2, Bool.and_self], by simp only [units]; omega, by simp only [deep]; omega⟩
      · exact ⟨_, rfl, by simp only [good, hnm, hg'.2, Bool.and_self], by simp only [units]; omega, by simp only [deep]; omega⟩
      · exact ⟨_, rfl, rfl, by simp only [units]; omega, by simp only [deep]; omega⟩
    walk_at "ev"
    exact ⟨p, rfl, O, hS3.more (by omega)⟩
end K25

set_option maxRecDepth 100000
set_option maxHeartbeats 4000000
namespace K25
open DL DE
local macro_rules | `(tactic| walk_at "ev") => `(tactic| try simp only [↓w_look, ↓w_opt_some, ↓w_cst, ↓w_nil, ↓w_cons, ↓w_tup, ↓w_lst, ↓w_T, ↓w_if, ↓DE.w_and, ↓DE.w_or, ↓w_not, ↓w_tand, ↓w_tor, ↓w_tnot, ↓w_op2, ↓w_op1, ↓w_opN, ↓w_b1, ↓w_b2, ↓w_chain, ↓w_call, ↓w_make, ↓w_prop, ↓w_own2, ↓w_eqO, ↓w_neO, ↓w_appO, ↓w_dictE, ↓w_fld, ↓w_lenO, ↓w_isi, ↓w_new, ↓w_noPart, ↓w_part, ↓w_sl, ↓w_seqI, ↓w_rng1, ↓w_lc, ↓w_lc0, ↓w_lc1, ↓w_dict0, ↓w_dict1, ↓w_dict, ↓w_get2, ↓w_join, ↓o_skip, ↓o_seq, ↓o_drop, ↓o_ret, ↓o_retN, ↓o_set, ↓o_own, ↓o_if, ↓o_asg, ↓o_par, ↓o_for, ↓o_for0, ↓o_forN, ↓o_put, ↓o_fldS, ↓w_body, ↓w_init, en0, self_eq, put_held, List.length_nil, ↓w_ok, ↓o_nx,
  lk_sh, lk_own, lk_int, lk_str, lk_tup, lk_bl, lk_non, lk_obj, all_nil, all_cons, v_int, v_bl, v_str, v_tup, v_lst, v_non, v_ins, v_dk, a_int, a_lst, a_tup, a_str, s_int, lt_int, le_int, gt_int, ge_int, m_lst, m_tup, len_tup, len_lst, ix_tup, ix_lst, at_0, at_1, at_2, at_3, q_str, q_int, nq_int, nq_bl, tupOf_lst, tupOf_tup, lstOf_lst, lstOf_tup, int_int, int_bl, max_int, min_int, asB_bl, asI_int, asIns_ins, two_eq, asDk_dk, key_str, key_int, Int.cast_ofNat_Int, Int.natCast_one, Int.natCast_zero, one_eq, rng1_eq, seqOf_own, seqOf_sh, seqOf_bor, seqOf_tup, seqOf_str, asObj_obj, asLst_lst, notR_bl,
  look0, looks, look1_sh, look1_bor, look1_own, look1_lend, lend2, lend_sh, lend_own, lend_bor, lend_mine, en_nil, en_cons, wi_nil, wi_cons, List.set_cons_zero, List.set_cons_succ, List.replicate_zero, List.replicate_succ, List.append_nil, List.nil_append, List.cons_append, List.map_cons, List.map_nil, List.length_cons, List.length_nil, Nat.reduceAdd, Nat.reduceLeDiff, sz_le, sz_lt, Option.map_some, Option.map_none, Option.some.injEq, exists_eq_left', Bool.and_true, Bool.true_and, in2, in3, in4, nin2, nq_str, cut21h, sl42, sl43, sl21, sl22, sl11, sl4h2, sl4h3, any_bls, all_bls, max_ints, String.reduceBEq, Bool.or_false, Bool.false_or, Bool.or_true, Bool.true_or, Bool.or_self, pI_view, pI_asIns, pI_fold, pI_leak, getHeld, hd0, hd1, hd2, emb_leak, Bool.not_true, Bool.not_false, and_self, true_and, and_true, if_true, if_false, decide_eq_true_eq, Bool.false_eq_true, reduceCtorEq, ite_true, ite_false])
mutual
theorem len_embW : ∀ t : PT, wf t = true → lenB (emb t) + 2 ≤ 200 * units t
  | .do_ x, h | .ret x, h | .go x, h => by
    have := nameB_len (by simpa [wf] using h)
    simp only [emb, lenB, lensB, units]
    have h1 : ("do" : String).length = 2 := rfl
    have h2 : ("return" : String).length = 6 := rfl
    have h3 : ("go" : String).length = 2 := rfl
    omega
  | .end_, _ => by
    simp only [emb, lenB, lensB, units]
    have h1 : ("end" : String).length = 3 := rfl
    omega
  | .if_ x y z, h => by
    simp only [wf, Bool.and_eq_true] at h
    have := nameB_len h.1.1
    have a := len_embW y h.1.2
    have b := len_embW z h.2
    simp only [emb, lenB, lensB, units]
    have h1 : ("if" : String).length = 2 := rfl
    omega
  | .while_ x _ y, h => by
    simp only [wf, Bool.and_eq_true] at h
    have := nameB_len h.1
    have a := len_embW y h.2
    simp only [emb, lenB, lensB, units]
    have h1 : ("while" : String).length = 5 := rfl
    omega
  | .forever y, h => by
    simp only [wf, Bool.and_eq_true] at h
    have a := len_embW y h.2
    simp only [emb, lenB, lensB, units]
    have h1 : ("forever" : String).length = 7 := rfl
    omega
  | .row l, h => by
    simp only [wf] at h
    have a := lens_embW l h
    simp only [emb, lenB, lensB, units]
    have h1 : ("row" : String).length = 3 := rfl
    omega
theorem lens_embW : ∀ l : List PT, wfs l = true → lensB (embs l) ≤ 200 * unitsL l
  | [], _ => by simp [embs, lensB]
  | t :: r, h => by
    simp only [wfs, Bool.and_eq_true] at h
    have a := len_embW t h.1
    have b := lens_embW r h.2
    simp only [embs, lensB, unitsL]
    omega
end
theorem repr_embW {t : PT} (h : wf t = true) (hu : units t ≤ 5000) (hd : hgt t ≤ 42) : ∃ y : String, ∀ fl S, oRepr (emb t, fl) S = some (.str y, .sh) := by
  have a := len_embW t h
  have b := dep_hgt t
  obtain ⟨y, _, e⟩ := repr_ok (plain_emb t) (show_emb t) (by omega) (by omega)
  exact ⟨y, e⟩
theorem st_more {S X X1 : Store} {T : Int} (h : St S X T) : St (S ++ X1) (X ++ X1) T := by
  obtain ⟨ls, cells, rest, turn, e, o⟩ := h
  subst e
  exact ⟨ls, cells, rest, turn, rfl, o⟩
def RoundsT (F : SF) : Prop := ∀ (xs : List Int) (fl f1 f2 : Fl) (S : Store), xs.length ≤ 1000 → ∃ k : Nat, k ≤ 7 ∧ F [(.frl (xs.map D.int), fl), (.int 3, f1), (.int 7, f2)] S = .ok (.int k, .sh) S
theorem roundsT_sem (E : Sem) : RoundsT (step E).L_rounds := by
  intro xs fl f1 f2 S hl
  refine ⟨3 + min 4 xs.length, by omega, WR.eq ?_⟩
  show WR (bodyF 3 (v_L_rounds E) _ _) _
  unfold v_L_rounds
  walk_at "ev"
  rw [len_frl]
  walk_at "ev"
  rw [List.length_map, show (3 : Int) + (if (xs.length : Int) < 7 - 3 then (xs.length : Int) else 7 - 3) = ((3 + min 4 xs.length : Nat) : Int) by split <;> omega]
structure FitT (t : PT) : Prop where
  g : good t = true
  u : units t ≤ 407
  d : deep t ≤ 7
theorem FitT.h {t : PT} (f : FitT t) : hgt t ≤ 14 := by have := (hgt_deep t f.g).1; have := f.d; omega
structure LawB (E : Sem) : Prop where
  bg : BeginOk E.L_begin
  rd : RoundsT E.L_rounds
  kt : KitU E.L_kit
  tl : ToldW E.L_told 6
  dr : DrawW E.L_draw
  lo : LooseW E.L_loosened 14
  bu : BuiltG E.L_built 42
  of_ : OfU E.s_Program_of 42
  is_ : IsOk E.L_is 14
  cl : ClassOk E.L_class_right
  st : StrangeOk E.L_strange
  ot : OtherW E.L_other 14
  eq_ : EqP E.peq
  mks : MkOk E
theorem bm6 : Bm 6 ≤ 10000000 := by decide
end K25

set_option maxRecDepth 100000
set_option maxHeartbeats 4000000
namespace K25
open DL DE
local macro_rules | `(tactic| walk_at "ev") => `(tactic| try simp only [↓w_look, ↓w_opt_some, ↓w_cst, ↓w_nil, ↓w_cons, ↓w_tup, ↓w_lst, ↓w_T, ↓w_if, ↓DE.w_and, ↓DE.w_or, ↓w_not, ↓w_tand, ↓w_tor, ↓w_tnot, ↓w_op2, ↓w_op1, ↓w_opN, ↓w_b1, ↓w_b2, ↓w_chain, ↓w_call, ↓w_make, ↓w_prop, ↓w_own2, ↓w_eqO, ↓w_neO, ↓w_appO, ↓w_dictE, ↓w_fld, ↓w_lenO, ↓w_isi, ↓w_new, ↓w_noPart, ↓w_part, ↓w_sl, ↓w_seqI, ↓w_rng1, ↓w_lc, ↓w_lc0, ↓w_lc1, ↓w_dict0, ↓w_dict1, ↓w_dict, ↓w_get2, ↓w_join, ↓o_skip, ↓o_seq, ↓o_drop, ↓o_ret, ↓o_retN, ↓o_set, ↓o_own, ↓o_if, ↓o_asg, ↓o_par, ↓o_for, ↓o_for0, ↓o_forN, ↓o_put, ↓o_fldS, ↓w_body, ↓w_init, en0, self_eq, put_held, List.length_nil, ↓w_ok, ↓o_nx,
  lk_sh, lk_own, lk_int, lk_str, lk_tup, lk_bl, lk_non, lk_obj, all_nil, all_cons, v_int, v_bl, v_str, v_tup, v_lst, v_non, v_ins, v_dk, a_int, a_lst, a_tup, a_str, s_int, lt_int, le_int, gt_int, ge_int, m_lst, m_tup, len_tup, len_lst, ix_tup, ix_lst, at_0, at_1, at_2, at_3, q_str, q_int, nq_int, nq_bl, tupOf_lst, tupOf_tup, lstOf_lst, lstOf_tup, int_int, int_bl, max_int, min_int, asB_bl, asI_int, asIns_ins, two_eq, asDk_dk, key_str, key_int, Int.cast_ofNat_Int, Int.natCast_one, Int.natCast_zero, one_eq, rng1_eq, seqOf_own, seqOf_sh, seqOf_bor, seqOf_tup, seqOf_str, asObj_obj, asLst_lst, notR_bl,
  look0, looks, look1_sh, look1_bor, look1_own, look1_lend, lend2, lend_sh, lend_own, lend_bor, lend_mine, en_nil, en_cons, wi_nil, wi_cons, List.set_cons_zero, List.set_cons_succ, List.replicate_zero, List.replicate_succ, List.append_nil, List.nil_append, List.cons_append, List.map_cons, List.map_nil, List.length_cons, List.length_nil, Nat.reduceAdd, Nat.reduceLeDiff, sz_le, sz_lt, Option.map_some, Option.map_none, Option.some.injEq, exists_eq_left', Bool.and_true, Bool.true_and, in2, in3, in4, nin2, nq_str, cut21h, sl42, sl43, sl21, sl22, sl11, sl4h2, sl4h3, any_bls, all_bls, max_ints, String.reduceBEq, Bool.or_false, Bool.false_or, Bool.or_true, Bool.true_or, Bool.or_self, pI_view, pI_asIns, pI_fold, pI_leak, getHeld, hd0, hd1, hd2, emb_leak, Bool.not_true, Bool.not_false, and_self, true_and, and_true, if_true, if_false, decide_eq_true_eq, Bool.false_eq_true, reduceCtorEq, ite_true, ite_false])
theorem lc_none {c : DL.ST} {i : Nat} {ρ : Loc} {S : Store} {ds : List D} (h : ∀ d ∈ ds, c (ρ.set i (some (d, .sh))) S = .ok false S) : lcI (gNm i) c (sCst (.int 1)) ρ ds S = .ok [] S := by
  rw [lc_filter (fun _ => false) (fun _ => .int 1) ds fun d hd => ⟨h d hd, .sh, rfl, rfl⟩, List.filter_eq_nil_iff.mpr fun _ _ => by simp, List.map_nil]
theorem ne_nn {a b : Fl} {S : Store} : oNe (.lst [], a) (.lst [], b) S = some (.bl false, .sh) := rfl
theorem at_m {a b c d : D} : L2.atI [a, b, c, d] (-1) = some d := rfl
theorem neg1 {a : Fl} {S : Store} : oNeg (.int 1, a) S = some (.int (-1), .sh) := rfl
theorem law_sem {E : Sem} (b : LawB E) (xs : List Int) (fl : Fl) (hl : xs.length ≤ 1000) : WR ((step E).law [(.frl (xs.map D.int), fl)] []) fun r _ => r = (.bl true, .sh) := by
  show WR (bodyF 11 (v_law E) _ _) _
  unfold v_law
  walk_at "ev"
  refine (b.bg xs (lend fl) hl).mono ?_
  rintro _ S1 ⟨rfl, hS1⟩
  walk_at "ev"
  obtain ⟨k, hk, e⟩ := b.rd xs (lend fl) .sh .sh S1 hl
  rw [e]
  walk_at "ev"
  refine ⟨by omega, ?_⟩
  refine o_forP (fun n ρ S => ∃ X x2 x3 x4 x5 x6 x7 x8 x9 x10, ρ = [some (.frl (xs.map D.int), lend fl), some (.obj 1, .sh), x2, x3, x4, x5, x6, x7, x8, x9, x10] ∧ St S X (20000000 * n)) ⟨[], none, none, none, none, none, none, none, none, none, rfl, by simpa using hS1⟩ ?_ ?_
  · rintro n d ρ S hn ⟨X, x2, x3, x4, x5, x6, x7, x8, x9, x10, rfl, hS⟩
    have hlt := (List.getElem?_eq_some_iff.mp hn).1
    rw [rng_len] at hlt
    generalize hx0 : (some (D.frl (xs.map D.int), lend fl) : Option RV) = x0
    simp only [List.set_cons_succ, List.set_cons_zero]
    have hT : (20000000 * (n : Int)) + 20000000 < lim := by unfold lim; omega
    rw [show (20000000 : Int) * ((n + 1 : Nat) : Int) = 20000000 * (n : Int) + 20000000 by omega]
    generalize 20000000 * (n : Int) = T at hS hT ⊢
    have hB := bm6
    clear hn hlt hx0 x2 e hS1
    refine seq_P (fun ρ' S' => ∃ t X', FitT t ∧ ρ' = [x0, some (.obj 1, .sh), some (d, .sh), some (emb t, .sh), x4, x5, x6, x7, x8, x9, x10] ∧ St S' X' (T + 10000100)) ?_ ?_
    · walk_at "ev"
      refine (b.dr S X T 6 .sh hS (by omega) (by decide) (by decide)).mono ?_
      rintro _ S3 ⟨q, rfl, q0, q1, hS3⟩
      walk_at "ev"
      refine (b.kt S3 X _ .sh .sh .own hS3 (by omega)).mono ?_
      rintro _ S2 ⟨names, hkn, rfl, hS2⟩
      walk_at "ev"
      refine (b.tl S2 X _ 40 (1 + q) names .sh .sh .sh hkn hS2 (by omega) (by omega) (by omega)).mono ?_
      rintro _ S4 ⟨t, l1, rfl, g1, d1, b1, u1, hS4⟩
      walk_at "ev"
      exact ⟨t, _, ⟨g1, by unfold p0 at u1; omega, by omega⟩, rfl, hS4.more (by omega)⟩
    clear hS
    clear X
    rintro _ S2 ⟨t, X, ft, rfl, hS2⟩
    have th := ft.h
    have tg := ft.g
    have tu := ft.u
    have td := ft.d
    refine seq_P (fun ρ' S' => ∃ s, Loose t s ∧ ρ' = [x0, some (.obj 1, .sh), some (d, .sh), some (emb t, .sh), some (emb s, .sh), x5, x6, x7, x8, x9, x10] ∧ St S' X (T + 10002000)) ?_ ?_
    · walk_at "ev"
      refine (b.lo S2 X _ t .sh .sh th tg (by omega) hS2 (by omega)).mono ?_
      rintro _ S3 ⟨s, rfl, L, hS3⟩
      walk_at "ev"
      exact ⟨s, L, rfl, hS3.more (by omega)⟩
    rintro _ S3 ⟨s, L, rfl, hS3⟩
    have sw := L.w
    have su := L.u
    have sh := L.h
    have sn := L.n
    have sd : deep s = deep t := by rw [← deep_norm, sn]
    obtain ⟨y, hy⟩ := repr_embW sw (by omega) (by omega)
    refine seq_P (fun ρ' S' => ρ' = [x0, some (.obj 1, .sh), some (d, .sh), some (emb t, .sh), some (emb s, .sh), some (.str y, .sh), x6, x7, x8, x9, x10] ∧ S' = S3) ?_ ?_
    · walk_at "ev"
      rw [hy]
      walk_at "ev"
    rintro _ S4 ⟨rfl, rfl⟩
    refine seq_P (fun ρ' S' => ∃ X', ρ' = [x0, some (.obj 1, .sh), some (d, .sh), some (emb t, .sh), some (emb s, .sh), some (.str y, .sh), some (.lst [pI (cls t) t, pI (cls t) t, pI (cls s) t, pI (cls s) t], .sh), x7, x8, x9, x10] ∧ St S' X' (T + 10002000)) ?_ ?_
    · walk_at "ev"
      rw [b.bu t _ _ (by omega) (wf_good t tg) (by omega) (by omega), norm_good t tg]
      walk_at "ev"
      refine (b.of_ t .sh _ (by omega) (by omega) (wf_good t tg) (by omega) (by omega)).mono ?_
      rintro _ _ ⟨rfl, X1, rfl⟩
      rw [norm_good t tg]
      walk_at "ev"
      rw [b.bu s _ _ (by omega) sw (by omega) (by omega), sn]
      walk_at "ev"
      refine (b.of_ s .sh _ (by omega) (by omega) sw (by omega) (by omega)).mono ?_
      rintro _ _ ⟨rfl, X2, rfl⟩
      rw [sn]
      walk_at "ev"
      exact ⟨_, st_more (st_more hS3)⟩
    clear hS3 hS2
    clear X
    rintro _ S5 ⟨X, rfl, hS5⟩
    have ok1 := cls_ok t
    have ok2 := cls_ok s
    have some4 : ∀ p ∈ [pI (cls t) t, pI (cls t) t, pI (cls s) t, pI (cls s) t], ∃ c, okP c = true ∧ p = pI c t := by
      intro p hp
      simp only [List.mem_cons, List.not_mem_nil, or_false] at hp
      rcases hp with rfl | rfl | rfl | rfl
      · exact ⟨_, ok1, rfl⟩
      · exact ⟨_, ok1, rfl⟩
      · exact ⟨_, ok2, rfl⟩
      · exact ⟨_, ok2, rfl⟩
    refine seq_P (fun ρ' S' => ∃ z, ρ' = [x0, some (.obj 1, .sh), some (d, .sh), some (emb t, .sh), some (emb s, .sh), some (.str y, .sh), some (.lst [pI (cls t) t, pI (cls t) t, pI (cls s) t, pI (cls s) t], .sh), x7, x8, x9, z] ∧ S' = S5) ?_ ?_
    · walk_at "ev"
      rw [lc_none fun p hp => ?_]
      · walk_at "ev"
        rw [ne_nn]
        walk_at "ev"
        rw [hy]
        walk_at "ev"
        rw [if_neg (by simp)]
        exact ⟨_, rfl⟩
      · obtain ⟨c, hc, rfl⟩ := some4 p hp
        refine WR.eq ?_
        walk_at "ev"
        rw [b.is_ c t _ _ S5 hc th tg (by omega) (by omega)]
        walk_at "ev"
    rintro _ S6 ⟨z, rfl, rfl⟩
    refine seq_P (fun ρ' S' => ρ' = [x0, some (.obj 1, .sh), some (d, .sh), some (emb t, .sh), some (emb s, .sh), some (.str y, .sh), some (.lst [pI (cls t) t, pI (cls t) t, pI (cls s) t, pI (cls s) t], .sh), x7, x8, x9, z] ∧ S' = S6) ?_ ?_
    · walk_at "ev"
      rw [b.cl t]
      walk_at "ev"
      rw [b.cl t]
      walk_at "ev"
    rintro _ S7 ⟨rfl, rfl⟩
    refine seq_P (fun ρ' S' => ρ' = [x0, some (.obj 1, .sh), some (d, .sh), some (emb t, .sh), some (emb s, .sh), some (.str y, .sh), some (.lst [pI (cls t) t, pI (cls t) t, pI (cls s) t, pI (cls s) t], .sh), x7, x8, x9, z] ∧ S' = S7) ?_ ?_
    · walk_at "ev"
      rw [ix0]
      walk_at "ev"
      clear some4
      cases t with
      | while_ x w y' =>
        have hg' := tg
        simp only [good, Bool.and_eq_true] at hg'
        have tu' := tu
        have td' := td
        have th' := th
        simp only [units] at tu'
        simp only [deep] at td'
        simp only [hgt] at th'
        simp only [wordP, emb]
        walk_at "ev"
        cases w with
        | false => walk_at "ev"
        | true =>
          walk_at "ev"
          rw [b.bu y' _ _ (by omega) (wf_good y' hg'.2) (by omega) (by omega), norm_good y' hg'.2]
          walk_at "ev"
          rw [b.mks.while_ x _ y' true _ _ _ S7 hg'.1 (cls_ok y') (by omega) (by omega)]
          walk_at "ev"
          refine ⟨⟨rfl, ok1⟩, ?_⟩
          rw [b.eq_ 6 _ _ _ _ _ S7 rfl ok1 tg tg (by omega) (by omega), same_self]
          walk_at "ev"
      | _ =>
        simp only [wordP]
        walk_at "ev"
    rintro _ S8 ⟨rfl, rfl⟩
    refine seq_P (fun ρ' S' => ∃ v, ρ' = [x0, some (.obj 1, .sh), some (d, .sh), some (emb t, .sh), some (emb s, .sh), some (.str y, .sh), some (.lst [pI (cls t) t, pI (cls t) t, pI (cls s) t, pI (cls s) t], .sh), x7, x8, x9, v] ∧ S' = S8) ?_ ?_
    · walk_at "ev"
      rw [lc_none fun p hp => ?_]
      · walk_at "ev"
        rw [ne_nn]
        walk_at "ev"
        rw [b.st (cls t) t _ _ S8 ok1 tg (by omega) (by omega)]
        walk_at "ev"
        exact ⟨_, rfl⟩
      · obtain ⟨c, hc, rfl⟩ := some4 p hp
        refine WR.eq ?_
        walk_at "ev"
        refine ⟨⟨hc, ok1⟩, ?_⟩
        rw [b.eq_ c (cls t) t t _ _ S8 hc ok1 tg tg (by omega) (by omega), same_self]
        walk_at "ev"
        rw [neg1]
        walk_at "ev"
        rw [at_m]
        walk_at "ev"
        refine ⟨⟨hc, ok2⟩, ?_⟩
        rw [b.eq_ c (cls s) t t _ _ S8 hc ok2 tg tg (by omega) (by omega), same_self]
        walk_at "ev"
    rintro _ S9 ⟨v, rfl, rfl⟩
    refine seq_P (fun ρ' S' => ∃ u, Oth t u ∧ ρ' = [x0, some (.obj 1, .sh), some (d, .sh), some (emb t, .sh), some (emb s, .sh), some (.str y, .sh), some (.lst [pI (cls t) t, pI (cls t) t, pI (cls s) t, pI (cls s) t], .sh), some (emb u, .sh), x8, x9, v] ∧ St S' X (T + 10003000)) ?_ ?_
    · walk_at "ev"
      refine (b.ot S9 X _ t .sh .sh th tg (by omega) (by omega) hS5 (by omega)).mono ?_
      rintro _ S10 ⟨u, rfl, O, hS10⟩
      walk_at "ev"
      exact ⟨u, O, rfl, hS10.more (by omega)⟩
    clear hS5
    rintro _ S10 ⟨u, O, rfl, hS10⟩
    have ug := O.g
    have uu := O.u
    have ud := O.d
    have uh := (hgt_deep u ug).1
    have ok3 := cls_ok u
    refine seq_P (fun ρ' S' => ∃ X', ρ' = [x0, some (.obj 1, .sh), some (d, .sh), some (emb t, .sh), some (emb s, .sh), some (.str y, .sh), some (.lst [pI (cls t) t, pI (cls t) t, pI (cls s) t, pI (cls s) t], .sh), some (emb u, .sh), some (pI (cls u) u, .sh), x9, v] ∧ St S' X' (T + 10003000)) ?_ ?_
    · walk_at "ev"
      refine (b.of_ u .sh _ (by omega) (by omega) (wf_good u ug) (by omega) (by omega)).mono ?_
      rintro _ _ ⟨rfl, X1, rfl⟩
      rw [norm_good u ug]
      walk_at "ev"
      exact ⟨_, st_more hS10⟩
    clear hS10
    clear X
    rintro _ S11 ⟨X, rfl, hS11⟩
    refine seq_P (fun ρ' S' => ρ' = [x0, some (.obj 1, .sh), some (d, .sh), some (emb t, .sh), some (emb s, .sh), some (.str y, .sh), some (.lst [pI (cls t) t, pI (cls t) t, pI (cls s) t, pI (cls s) t], .sh), some (emb u, .sh), some (pI (cls u) u, .sh), some (.lst [.bl (same u t), .bl (same u t), .bl (same u t)], .sh), v] ∧ S' = S11) ?_ ?_
    · walk_at "ev"
      refine ⟨⟨ok3, ok2⟩, ?_⟩
      rw [b.eq_ (cls u) (cls s) u t _ _ S11 ok3 ok2 ug tg (by omega) (by omega)]
      walk_at "ev"
      refine ⟨⟨ok2, ok3⟩, ?_⟩
      rw [b.eq_ (cls s) (cls u) t u _ _ S11 ok2 ok3 tg ug (by omega) (by omega)]
      walk_at "ev"
      refine ⟨⟨ok1, ok3⟩, ?_⟩
      rw [b.eq_ (cls t) (cls u) t u _ _ S11 ok1 ok3 tg ug (by omega) (by omega)]
      walk_at "ev"
      rw [same_symm t u]
      try simp
    rintro _ S12 ⟨rfl, rfl⟩
    walk_at "ev"
    rw [b.is_ (cls u) u _ _ S12 ok3 (by omega) ug (by omega) (by omega)]
    walk_at "ev"
    rw [eq_emb ug tg (by omega) (by omega)]
    walk_at "ev"
    rw [if_pos ⟨by decide, by decide, by decide⟩, show (List.replicate (Int.toNat 3) [D.bl (same u t)]).flatten = [D.bl (same u t), D.bl (same u t), D.bl (same u t)] from rfl]
    walk_at "ev"
    have e9 := ne_bls (l := [same u t, same u t, same u t]) (k := [same u t, same u t, same u t]) (a := .sh) (b := .own) (S := S12)
    simp only [List.map_cons, List.map_nil, decide_true, Bool.not_true] at e9
    rw [e9]
    walk_at "ev"
    exact ⟨X, _, _, _, _, _, _, _, _, _, rfl, hS11.more (by omega)⟩
  · rintro ρ S ⟨X, x2, x3, x4, x5, x6, x7, x8, x9, x10, rfl, hS⟩
    walk_at "ev"
end K25

set_option maxRecDepth 100000
set_option maxHeartbeats 4000000
namespace K25
open DL DE
theorem hgt1 (t : PT) : 1 ≤ hgt t := by cases t <;> simp [hgt] <;> omega
theorem h_pb (n : Nat) : PB (sem (n + 2)) := ⟨needName_sem (isName_sem (sem n)), needProg_sem _, sized_sem _, toldP_sem _, lenP_sem _, isNumber_sem _⟩
theorem h_pick (n : Nat) : PickOk (sem (n + 2)).L_pick := pick_sem (draw_sem (sem n))
theorem h_name (n : Nat) : NameF (sem (n + 3)).L_name := name_sem (draw_sem (sem (n + 1))) (h_pick n) (kept_sem (sem (n + 1)))
theorem h_last (n : Nat) : LastOk (sem (n + 3)).L_last := last_sem (h_pick n)
theorem h_mk (n : Nat) : MkOk (sem (n + 3)) := ⟨do_sem (h_pb n), ret_sem (h_pb n), go_sem (h_pb n), end_sem (h_pb n), if_sem (h_pb n), while_sem (h_pb n), forever_sem (h_pb n), row_sem (h_pb n) (parts_sem (sem (n + 1)))⟩
theorem h_kit (n : Nat) : KitU (sem (n + 4)).L_kit := kit_sem (.of (draw_sem (sem (n + 2)))) (.of (h_name n))
theorem h_part0 (j : Nat) : PartW (sem (j + 4)).L_part 0 := part_sem (.of (draw_sem _)) (.of (h_pick (j + 1))) (.of (h_last j)) fun n h => by omega
theorem h_told : ∀ m j : Nat, ToldW (sem (j + 2 * m + 5)).L_told m
  | 0, j => told_sem (.of (h_pick (j + 2))) (h_part0 j)
  | m + 1, j => by
    have h1 := h_told m j
    have h2 : PartW (sem (j + 2 * m + 6)).L_part (m + 1) := part_sem (.of (draw_sem _)) (.of (h_pick (j + 2 * m + 3))) (.of (h_last (j + 2 * m + 2))) fun n h => by
      have : n = m := by omega
      subst this
      exact h1
    exact told_sem (.of (h_pick (j + 2 * m + 4))) h2
theorem h_loose : ∀ k m : Nat, LooseW (sem (m + k + 1)).L_loosened k
  | 0, m => fun _ _ _ t _ _ h => by have := hgt1 t; omega
  | k + 1, m => loose_sem (.of (draw_sem (sem (m + k)))) (h_loose k m)
theorem h_built : ∀ k m : Nat, BuiltG (sem (m + k + 3)).L_built k
  | 0, m => fun t _ _ h => by have := hgt1 t; omega
  | k + 1, m => builtG_sem (h_mk (m + k)) (h_built k m)
theorem h_made : ∀ k m : Nat, MadeU (sem (m + k + 4)).made k
  | 0, m => fun t _ _ h => by have := hgt1 t; omega
  | k + 1, m => made_sem (h_mk (m + k + 1)) (madeEnd_sem (h_mk (m + k))) (h_made k m)
theorem h_of (k m : Nat) : OfU (sem (m + k + 5)).s_Program_of k := of_sem (h_made k m)
theorem h_many : ∀ k m : Nat, ManyU (sem (m + k + 1)).L_many k
  | 0, m => fun t _ _ h => by have := hgt1 t; omega
  | k + 1, m => many_sem (lins_sem (sem (m + k))) (h_many k m)
theorem h_is (k m : Nat) : IsOk (sem (m + k + 2)).L_is k := is_sem (toldP_sem _) (lenP_sem _) (h_many k m)
theorem h_other : ∀ k m : Nat, OtherW (sem (m + k + 3)).L_other k
  | 0, m => fun _ _ _ t _ _ h => by have := hgt1 t; omega
  | k + 1, m => other_sem (lins_sem (sem (m + k + 2))) (join_sem (sem (m + k + 2))) (.of (draw_sem (sem (m + k + 2)))) (.of (h_pick (m + k + 1))) (.of (h_name (m + k))) (h_other k m)
theorem h_law : LawB (sem 48) where
  bg := begin_sem _
  rd := roundsT_sem _
  kt := h_kit 44
  tl := h_told 6 31
  dr := .of (draw_sem _)
  lo := h_loose 14 33
  bu := h_built 42 3
  of_ := h_of 42 1
  is_ := h_is 14 32
  cl := class_sem _
  st := strange_sem (peqX_sem _)
  ot := h_other 14 31
  eq_ := peq_sem _
  mks := h_mk 45
theorem law_true (xs : List Int) (fl : Fl) (hl : xs.length ≤ 1000) : ∃ S, (sem 49).law [(.frl (xs.map D.int), fl)] [] = .ok (.bl true, .sh) S := by
  obtain ⟨r, S, e, h⟩ := (law_sem h_law xs fl hl).ex
  subst h
  exact ⟨S, e⟩
end K25

set_option maxRecDepth 100000
set_option maxHeartbeats 4000000
namespace DL
open PySem L2
section
variable {P : Program} {pw : World} {K : PySem.W.Frag} {mg : Str → Option Value} {base : Heap} {w : Wd} {k np c : Nat} {f : Addr} {fd : FuncData} {ps : List Str}
theorem bad_fn : FnOk P pw K mg base CX0 k f fd ps (spF w np fun _ _ => .bad) :=
  ⟨fun vs H Q E ⟨_, _, _, _, _, _, h⟩ => h.elim, fun A outer s H args us vs Q E _ _ _ _ ⟨_, _, _, _, _, _, h⟩ => h.elim⟩
theorem bad_init : FnOk P pw K mg base CX0 k f fd ps (spI w c np fun _ _ => .bad) :=
  ⟨fun vs H Q E ⟨_, _, _, _, _, _, _, _, _, _, _, _, h⟩ => h.elim, fun A outer s H args us vs Q E _ _ _ _ ⟨_, _, _, _, _, _, _, _, _, _, _, _, h⟩ => h.elim⟩
theorem bad_G : FnG P pw K mg base k f fd ps (spF w np fun _ _ => .bad) :=
  ⟨fun vs H Q E ⟨_, _, _, _, _, _, h⟩ => h.elim, fun A outer s H args us vs Q E _ _ _ _ _ ⟨_, _, _, _, _, _, h⟩ => h.elim⟩
end
theorem reps_ints {w : Wd} {m : List Addr} {Z : Addr → Prop} {H : Hp} : ∀ ns : List Int, Reps w m Z H (ns.map D.int) (ns.map V.int)
  | [] => .nil
  | n :: r => .cons (.int n) (reps_ints r)
/-- the law's promise, of its script -/
theorem law_said {K : PySem.W.Frag} {cl : Nat → Addr} {F : SF} {H : Hp} {a : Addr} {ns : List Int} {E : XK} (h : ∃ S, F [(.frl (ns.map D.int), .sh)] [] = .ok (.bl true, .sh) S)
    (hs : KLst K a (ns.map V.int) ∧ (∀ b, H b = none) ∨ ∃ o, H a = some (.frz o (.lst (ns.map V.int)))) : spF ⟨K, cl⟩ 1 F [.ref a] H (fun v _ => v = .bl true) E := by
  obtain ⟨S, e⟩ := h
  refine ⟨⟨[], [], [], none⟩, [(.frl (ns.map D.int), .sh)], [], ⟨⟨rfl, fun n d q => by simp at q⟩, List.nodup_nil, fun b q => by simp at q, fun b q => by rcases q with q | q | q <;> simp at q, rfl, rfl⟩, .cons ?_ .nil, rfl, ?_⟩
  · show Rep _ _ _ _ _ _
    rcases hs with ⟨hk, _⟩ | ⟨o, ho⟩
    · exact .gfrl hk (reps_ints ns)
    · exact .frl ho (reps_ints ns)
  · show PostC _ _ _ _ (F _ _)
    rw [e]
    rintro v H' ⟨g', _, _, _, _, _, _, r⟩
    exact Rep.bl' r
end DL
namespace K25
open PySem L2 DL
theorem oks_zero {P : Program} {pw : World} {K : PySem.W.Frag} {mg : Str → Option Value} {base : Heap} {T : Txt K mg} : Oks P pw K mg base T 0 (sem 0) := by
  constructor
  all_goals first
    | exact bad_fn
    | exact bad_init
    | exact bad_G
theorem oks {P : Program} {pw : World} {K : PySem.W.Frag} {mg : Str → Option Value} {base : Heap} {T : Txt K mg} : ∀ n, Oks P pw K mg base T n (sem n)
  | 0 => oks_zero
  | n + 1 => oks_succ (oks n)
theorem all_of {P : Program} {pw : World} {K : PySem.W.Frag} {h : Heap} {mg : Str → Option Value} {fa : Addr} (X : K.In h) (G : h.Ns mainGlobals mg) (hfa : mg "law" = some (.ref fa)) (c : txtB K = true) (hf : (adrs K).map (fnWA K) = vals) :
    ∃ fd : FuncData, (∀ (s : Shared) (v : Value), BindsTo s fd ⟨[v], []⟩ [("_law_script", v)]) ∧ ∀ base : Heap, K.In base → base.Ns mainGlobals mg → FnG P pw K mg base 98 fa fd ["_law_script"] (spF ⟨K, clA K⟩ 1 (sem 49).law) := by
  obtain ⟨T, e1, e2, hb⟩ := txt_of X G c hf
  have e := hfa.symm.trans T.m_law
  cases e
  refine ⟨T.d_law, hb, fun base _ _ => ?_⟩
  have q := (oks (P := P) (pw := pw) (base := base) (T := T) 49).law
  rw [show T.w = ⟨K, clA K⟩ by unfold Txt.w; rw [e1]] at q
  exact q
end K25

open PySem PySem.W PyProof.Rows in
set_option maxRecDepth 100000 in
set_option maxHeartbeats 0 in
theorem PySem.Challenge.cw_fewmodes_k25_programs_made_holds : PySem.Challenge.rw_fewmodes_k25_programs_made.Holds := by
  w_on; o_law; k_head; (case hw => w_witness2)
  k_fill
  refine DL.walk_G (l := PySem.Challenge.rw_fewmodes_k25_programs_made) (n := 63) (k := 98) (x := "_law_script") (sp := fun K => DL.spF ⟨K, K25.clA K⟩ 1 (K25.sem 49).law) rfl (by decide) rfl ⟨rfl, by decide, by decide⟩ (fun w h Y => PySem.W.kIn_of Y) ?F ?S
  case F =>
    intro w mg fa h KX G hmg
    refine K25.all_of KX G hmg ?c ?hf
    case c => kernel_rfl
    case hf => kernel_rfl
  case S =>
    intro K H a ns hl _ hs
    exact DL.law_said (K25.law_true ns .sh (by omega)) hs

