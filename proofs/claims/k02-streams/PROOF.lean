import PyProof.Rows.All
import Wide.All
import OpenK.AllK
import Wide.FinOn
import HandS.ForMost
import HandS.ForExc
import HandS.TryMany
import HandS.Walk
import HandS.TupAny
import HandS.TupLe
import HandS.IsInst
import HandS.Deep
import HandS.SortInts
import HandS.Zip
import KE.GoesEnum
import HandS.More
import HandS.ExcInit
import HandS.Dict
import HandS.Small
import HandS.OwnEq
import HandS.TupSets
import KE.OsSort
import HandS.Head0
import HandS.Head1
import HandS.Head2
import HandS.HeadEnd
import HandS.HeadHook1
import HandS.HeadHook2
import HandS.HeadNt
import HandS.Defaults
import HandS.TupMul
import KE.KStateDown
import Lean
import PySem.Challenge.RW_moststream_k02_whole_streams_judged
set_option Elab.async false
set_option linter.all false
set_option maxRecDepth 100000
set_option maxHeartbeats 0
/-! Mir: data by value, environments with owned containers, and how they lie in the layer's heap. -/
namespace Mir
open PySem L2

/-- data by value; box: a field's container that is the object's own -/
inductive D where
  | non | bl (b : Bool) | int (i : Int) | str (x : Str)
  | tup (xs : List D) | lst (xs : List D) | dct (kvs : List (D × D)) | dtt (kvs : List (D × D))
  | ins (c : Str) (fs : List (Str × D)) | box (d : D)

/-- a slot of a frame: empty, a datum, a container that is the frame's own, a caught error with its fields -/
inductive Sl where
  | no | d (x : D) | b (x : D) | e (c : Str) (fs : List (Str × D))
abbrev En := List Sl
inductive Res (α : Type) where
  | ok (a : α) (s : En) | ex (c : Str) (fs : List (Str × D)) (s : En) | bad
inductive Out where
  | nx (s : En) | rt (d : D) (s : En) | ro (d : D) (s : En) | bk (s : En) | ct (s : En) | ex (c : Str) (fs : List (Str × D)) (s : En) | bad
abbrev ME := En → Res D
abbrev MT := En → Res Bool
abbrev MS := En → Out

/-- keys of dicts -/
def keyK : D → Option Key
  | .int i => some (.inl i)
  | .str x => some (.inr x)
  | _ => none
def keysK : List D → Option (List Key)
  | [] => some []
  | d :: ds => match keyK d, keysK ds with
    | some k, some ks => some (k :: ks)
    | _, _ => none
def keyT : D → Option (List Key)
  | .tup ds => keysK ds
  | _ => none

section
variable (K : PySem.W.Frag) (mg : Str → Option Value) (F : Hp)
mutual
/-- a datum that nobody changes any more, in the frozen part F -/
inductive Rep : D → V → Prop
  | non : Rep .non .non
  | bl (b : Bool) : Rep (.bl b) (.bl b)
  | int (i : Int) : Rep (.int i) (.int i)
  | str (x : Str) : Rep (.str x) (.str x)
  | tup {ds : List D} {vs : List V} {a : Addr} : SqT K F a vs → Reps ds vs → Rep (.tup ds) (.ref a)
  | lst {ds : List D} {vs : List V} {a : Addr} : SqL K F a vs → Reps ds vs → Rep (.lst ds) (.ref a)
  | dK {kvs : List (D × D)} {xs : List (Key × V)} {a : Addr} : F a = some (.dK xs) → RepK kvs xs → Rep (.dct kvs) (.ref a)
  | dT {kvs : List (D × D)} {xs : List (List Key × V)} {a : Addr} : F a = some (.dT xs) → RepT kvs xs → Rep (.dtt kvs) (.ref a)
  | ins {c : Str} {fs : List (Str × D)} {C dx a : Addr} {xs : List (Str × V)} : F a = some (.ins C dx xs) → mg c = some (.ref C) → RepF fs xs → Rep (.ins c fs) (.ref a)
inductive Reps : List D → List V → Prop
  | nil : Reps [] []
  | cons {d : D} {v : V} {ds : List D} {vs : List V} : Rep d v → Reps ds vs → Reps (d :: ds) (v :: vs)
inductive RepK : List (D × D) → List (Key × V) → Prop
  | nil : RepK [] []
  | cons {k d : D} {v : V} {q : Key} {ds : List (D × D)} {vs : List (Key × V)} : keyK k = some q → Rep d v → RepK ds vs → RepK ((k, d) :: ds) ((q, v) :: vs)
inductive RepT : List (D × D) → List (List Key × V) → Prop
  | nil : RepT [] []
  | cons {k d : D} {v : V} {q : List Key} {ds : List (D × D)} {vs : List (List Key × V)} : keyT k = some q → Rep d v → RepT ds vs → RepT ((k, d) :: ds) ((q, v) :: vs)
inductive RepF : List (Str × D) → List (Str × V) → Prop
  | nil : RepF [] []
  | cons {x : Str} {d : D} {v : V} {ds : List (Str × D)} {vs : List (Str × V)} : Rep d v → RepF ds vs → RepF ((x, d) :: ds) ((x, v) :: vs)
end
end

/-- F within F' -/
def Sub (F F' : Hp) : Prop := ∀ a o, F a = some o → F' a = some o
theorem Sub.refl (F : Hp) : Sub F F := fun _ _ h => h
theorem Sub.trans {F F1 F2 : Hp} (a : Sub F F1) (b : Sub F1 F2) : Sub F F2 := fun c o h => b c o (a c o h)
theorem Sub.sqL {K : PySem.W.Frag} {H H' : Hp} {a : Addr} {xs : List V} (e : Sub H H') (h : SqL K H a xs) : SqL K H' a xs := by
  rcases h with (h | ⟨o, h⟩) | h
  · exact .inl (.inl (e _ _ h))
  · exact .inl (.inr ⟨o, e _ _ h⟩)
  · exact .inr h
theorem Sub.sqT {K : PySem.W.Frag} {H H' : Hp} {a : Addr} {xs : List V} (e : Sub H H') (h : SqT K H a xs) : SqT K H' a xs := by
  rcases h with (h | ⟨o, h⟩) | h
  · exact .inl (.inl (e _ _ h))
  · exact .inl (.inr ⟨o, e _ _ h⟩)
  · exact .inr h
theorem Sub.rd {H H' : Hp} {a : Addr} {u : HO} (e : Sub H H') (h : Rd H a u) : Rd H' a u := by
  rcases h with h | ⟨o, h⟩
  · exact .inl (e _ _ h)
  · exact .inr ⟨o, e _ _ h⟩
section
variable {K : PySem.W.Frag} {mg : Str → Option Value} {F F' : Hp}
mutual
theorem Rep.mono (s : Sub F F') : ∀ {d : D} {v : V}, Rep K mg F d v → Rep K mg F' d v
  | _, _, .non => .non
  | _, _, .bl b => .bl b
  | _, _, .int i => .int i
  | _, _, .str x => .str x
  | _, _, .tup h r => .tup (s.sqT h) (Reps.mono s r)
  | _, _, .lst h r => .lst (s.sqL h) (Reps.mono s r)
  | _, _, .dK h r => .dK (s _ _ h) (RepK.mono s r)
  | _, _, .dT h r => .dT (s _ _ h) (RepT.mono s r)
  | _, _, .ins h g r => .ins (s _ _ h) g (RepF.mono s r)
theorem Reps.mono (s : Sub F F') : ∀ {d : List D} {v : List V}, Reps K mg F d v → Reps K mg F' d v
  | _, _, .nil => .nil
  | _, _, .cons h r => .cons (Rep.mono s h) (Reps.mono s r)
theorem RepK.mono (s : Sub F F') : ∀ {d : List (D × D)} {v : List (Key × V)}, RepK K mg F d v → RepK K mg F' d v
  | _, _, .nil => .nil
  | _, _, .cons q h r => .cons q (Rep.mono s h) (RepK.mono s r)
theorem RepT.mono (s : Sub F F') : ∀ {d : List (D × D)} {v : List (List Key × V)}, RepT K mg F d v → RepT K mg F' d v
  | _, _, .nil => .nil
  | _, _, .cons q h r => .cons q (Rep.mono s h) (RepT.mono s r)
theorem RepF.mono (s : Sub F F') : ∀ {d : List (Str × D)} {v : List (Str × V)}, RepF K mg F d v → RepF K mg F' d v
  | _, _, .nil => .nil
  | _, _, .cons h r => .cons (Rep.mono s h) (RepF.mono s r)
end
theorem Reps.length : ∀ {d : List D} {v : List V}, Reps K mg F d v → d.length = v.length
  | _, _, .nil => rfl
  | _, _, .cons _ r => by simp [Reps.length r]
theorem Reps.get : ∀ {ds : List D} {vs : List V} {i : Nat} {d : D}, Reps K mg F ds vs → ds[i]? = some d → ∃ v, vs[i]? = some v ∧ Rep K mg F d v
  | _, _, _, _, .nil, e => by simp at e
  | _, _, 0, _, .cons h _, e => by simp at e; subst e; exact ⟨_, rfl, h⟩
  | _, _, i + 1, _, .cons _ r, e => by
    obtain ⟨v, h1, h2⟩ := Reps.get (i := i) r (by simpa using e)
    exact ⟨v, by simpa using h1, h2⟩
theorem Reps.get' : ∀ {ds : List D} {vs : List V} {i : Nat} {v : V}, Reps K mg F ds vs → vs[i]? = some v → ∃ d, ds[i]? = some d ∧ Rep K mg F d v
  | _, _, _, _, .nil, e => by simp at e
  | _, _, 0, _, .cons h _, e => by simp at e; subst e; exact ⟨_, rfl, h⟩
  | _, _, i + 1, _, .cons _ r, e => by
    obtain ⟨v, h1, h2⟩ := Reps.get' (i := i) r (by simpa using e)
    exact ⟨v, by simpa using h1, h2⟩
theorem Reps.append : ∀ {ds es : List D} {vs us : List V}, Reps K mg F ds vs → Reps K mg F es us → Reps K mg F (ds ++ es) (vs ++ us)
  | _, _, _, _, .nil, s => s
  | _, _, _, _, .cons h r, s => .cons h (Reps.append r s)
theorem Reps.set {d : D} {v : V} (q : Rep K mg F d v) : ∀ {ds : List D} {vs : List V} (i : Nat), Reps K mg F ds vs → Reps K mg F (ds.set i d) (vs.set i v)
  | _, _, _, .nil => .nil
  | _, _, 0, .cons _ r => .cons q r
  | _, _, i + 1, .cons h r => .cons h (Reps.set q i r)
theorem Reps.take : ∀ {ds : List D} {vs : List V} (n : Nat), Reps K mg F ds vs → Reps K mg F (ds.take n) (vs.take n)
  | _, _, 0, _ => .nil
  | _, _, _ + 1, .nil => .nil
  | _, _, n + 1, .cons h r => .cons h (Reps.take n r)
theorem Reps.drop : ∀ {ds : List D} {vs : List V} (n : Nat), Reps K mg F ds vs → Reps K mg F (ds.drop n) (vs.drop n)
  | _, _, 0, r => r
  | _, _, _ + 1, .nil => .nil
  | _, _, n + 1, .cons _ r => Reps.drop n r
end
end Mir
namespace Mir
open PySem L2
section
variable (K : PySem.W.Frag) (mg : Str → Option Value) (F H : Hp)
def Dis (A B : List Addr) : Prop := ∀ a ∈ A, a ∉ B
mutual
/-- a container that may be changed, its own containers in it: the addresses of these -/
inductive Own : D → V → List Addr → Prop
  | lst {ds : List D} {vs : List V} {a : Addr} : H a = some (.lst vs) → Reps K mg F ds vs → Own (.lst ds) (.ref a) [a]
  | dK {ds : List (D × D)} {vs : List (Key × V)} {a : Addr} : H a = some (.dK vs) → RepK K mg F ds vs → Own (.dct ds) (.ref a) [a]
  | dT {ds : List (D × D)} {vs : List (List Key × V)} {a : Addr} : H a = some (.dT vs) → RepT K mg F ds vs → Own (.dtt ds) (.ref a) [a]
  | ins {c : Str} {ds : List (Str × D)} {vs : List (Str × V)} {a C dx : Addr} {A : List Addr} : H a = some (.ins C dx vs) → mg c = some (.ref C) → OwnF ds vs A → a ∉ A → Own (.ins c ds) (.ref a) (a :: A)
inductive OwnF : List (Str × D) → List (Str × V) → List Addr → Prop
  | nil : OwnF [] [] []
  | frz {x : Str} {d : D} {v : V} {ds : List (Str × D)} {vs : List (Str × V)} {B : List Addr} : Rep K mg F d v → OwnF ds vs B → OwnF ((x, d) :: ds) ((x, v) :: vs) B
  | box {x : Str} {d : D} {v : V} {A : List Addr} {ds : List (Str × D)} {vs : List (Str × V)} {B : List Addr} : Own d v A → OwnF ds vs B → Dis A B → OwnF ((x, .box d) :: ds) ((x, v) :: vs) (A ++ B)
end
end
section
variable {K : PySem.W.Frag} {mg : Str → Option Value} {F F' H H' : Hp}
mutual
theorem Own.keep (s : Sub F F') : ∀ {d : D} {v : V} {A : List Addr}, (∀ a ∈ A, ∀ o, H a = some o → H' a = some o) → Own K mg F H d v A → Own K mg F' H' d v A
  | _, _, _, k, .lst h r => .lst (k _ List.mem_cons_self _ h) (r.mono s)
  | _, _, _, k, .dK h r => .dK (k _ List.mem_cons_self _ h) (r.mono s)
  | _, _, _, k, .dT h r => .dT (k _ List.mem_cons_self _ h) (r.mono s)
  | _, _, _, k, .ins h g r n => .ins (k _ List.mem_cons_self _ h) g (OwnF.keep s (fun a ha => k a (List.mem_cons_of_mem _ ha)) r) n
theorem OwnF.keep (s : Sub F F') : ∀ {d : List (Str × D)} {v : List (Str × V)} {A : List Addr}, (∀ a ∈ A, ∀ o, H a = some o → H' a = some o) → OwnF K mg F H d v A → OwnF K mg F' H' d v A
  | _, _, _, _, .nil => .nil
  | _, _, _, k, .frz h r => .frz (h.mono s) (OwnF.keep s k r)
  | _, _, _, k, .box h r n => .box (Own.keep s (fun a ha => k a (List.mem_append_left _ ha)) h) (OwnF.keep s (fun a ha => k a (List.mem_append_right _ ha)) r) n
end
mutual
theorem Own.mut : ∀ {d : D} {v : V} {A : List Addr}, Own K mg F H d v A → ∀ a ∈ A, Mut (H a)
  | _, _, _, .lst h r => fun a ha => by rw [List.mem_singleton.mp ha, h]; trivial
  | _, _, _, .dK h r => fun a ha => by rw [List.mem_singleton.mp ha, h]; trivial
  | _, _, _, .dT h r => fun a ha => by rw [List.mem_singleton.mp ha, h]; trivial
  | _, _, _, .ins h g r n => fun a ha => (List.mem_cons.mp ha).elim (fun e => by rw [e, h]; trivial) (OwnF.mut r a)
theorem OwnF.mut : ∀ {d : List (Str × D)} {v : List (Str × V)} {A : List Addr}, OwnF K mg F H d v A → ∀ a ∈ A, Mut (H a)
  | _, _, _, .nil => fun _ ha => absurd ha (by simp)
  | _, _, _, .frz h r => OwnF.mut r
  | _, _, _, .box h r n => fun a ha => (List.mem_append.mp ha).elim (Own.mut h a) (OwnF.mut r a)
end
theorem mut_some {o : Option HO} (h : Mut o) : ∃ u, o = some u := by
  cases o with
  | none => exact h.elim
  | some u => exact ⟨u, rfl⟩
theorem Own.there {d : D} {v : V} {A : List Addr} (r : Own K mg F H d v A) (a : Addr) (ha : a ∈ A) : ∃ o, H a = some o := mut_some (r.mut a ha)

/-- from one moment to a later one: what is not owned stands; the frozen part grows by new things and by owned ones -/
structure Stp (A : Addr → Prop) (F H : Hp) (A' : Addr → Prop) (F' H' : Hp) : Prop where
  keep : ∀ a o, H a = some o → ¬ A a → H' a = some o
  mono : Sub F F'
  new : ∀ a o, F' a = some o → F a = none → H a = none ∨ A a
  own : ∀ a, A' a → A a ∨ H a = none
theorem Stp.refl {A : Addr → Prop} {F H : Hp} : Stp A F H A F H := ⟨fun _ _ h _ => h, Sub.refl _, fun a o h1 h2 => (by rw [h1] at h2; cases h2), fun _ h => .inl h⟩
theorem Stp.trans {A A1 A2 : Addr → Prop} {F F1 F2 H H1 H2 : Hp} (a : Stp A F H A1 F1 H1) (b : Stp A1 F1 H1 A2 F2 H2) : Stp A F H A2 F2 H2 := by
  have nA : ∀ x o, H x = some o → ¬ A x → ¬ A1 x := fun x o h n z => by
    rcases a.own x z with q | q
    · exact n q
    · rw [q] at h; cases h
  have back : ∀ x, H1 x = none → H x = none ∨ A x := fun x h => by
    by_cases n : A x
    · exact .inr n
    · cases e : H x with
      | none => exact .inl rfl
      | some o => rw [a.keep x o e n] at h; cases h
  refine ⟨fun x o h n => b.keep x o (a.keep x o h n) (nA x o h n), a.mono.trans b.mono, fun x o h n => ?_, fun x h => ?_⟩
  · cases e : F1 x with
    | some u => exact a.new x u e n
    | none =>
      rcases b.new x o h e with q | q
      · exact back x q
      · exact (a.own x q).symm
  · rcases b.own x h with q | q
    · exact a.own x q
    · exact (back x q).symm
/-- with fewer or more owned ones -/
theorem Stp.mono' {A A' B B' : Addr → Prop} {F F' H H' : Hp} (s : Stp A F H A' F' H') (h : ∀ a, A a → B a) (h' : ∀ a, B' a → A' a ∨ (B a ∨ H a = none)) : Stp B F H B' F' H' :=
  ⟨fun a o e n => s.keep a o e fun z => n (h a z), s.mono, fun a o e n => (s.new a o e n).imp id (h a), fun a z => by
    rcases h' a z with q | q
    · exact (s.own a q).imp (h a) id
    · exact q⟩

/-- what stays through a body: slots with their values; the pins of caught errors -/
structure Anc where
  j : List (Nat × V)
  pn : List (Addr × Obj)
/-- the written part and the module's names -/
structure Km where
  K : PySem.W.Frag
  mg : Str → Option Value
abbrev km (X : Cx) : Km := ⟨X.K, X.mg⟩
/-- how a frame's data lie: the pins tell a caught error's object, J the slots that stay as they are; A holds all that is owned -/
structure Rel (X : Km) (J : Anc) (F H : Hp) (sd : En) (σ : St) (A : Addr → Prop) : Prop where
  sub : Sub F H
  frz : ∀ (i : Nat) (d : D), sd[i]? = some (Sl.d d) → ∃ v, σ[i]? = some (some v) ∧ Rep X.K X.mg F d v
  lay : ∃ fp : Nat → List Addr, (∀ (i : Nat) (d : D), sd[i]? = some (Sl.b d) → ∃ v, σ[i]? = some (some v) ∧ Own X.K X.mg F H d v (fp i)) ∧ (∀ (i j : Nat) (a : Addr), a ∈ fp i → a ∈ fp j → i = j) ∧ (∀ (i : Nat) (a : Addr), a ∈ fp i → A a)
  free : ∀ a, A a → F a = none
  there : ∀ a, A a → Mut (H a)
  exn : ∀ (i : Nat) (c : Str) (fs : List (Str × D)), sd[i]? = some (Sl.e c fs) → ∃ (a : Addr) (oe : Obj) (C : Addr), σ[i]? = some (some (V.ref a)) ∧ (a, oe) ∈ J.pn ∧ oe.cls = Value.ref C ∧ X.mg c = some (Value.ref C) ∧
    ((fs = [] ∧ oe.dict = none) ∨ ∃ (f : Str) (d : D) (dx : Addr) (v : V), fs = [(f, d)] ∧ oe.dict = some dx ∧ H dx = some (HO.xd [(f, v)]) ∧ ¬ A dx ∧ Rep X.K X.mg F d v)
  anch : ∀ p ∈ J.j, σ[p.1]? = some (some p.2)
  len : sd.length ≤ σ.length
theorem Rel.ex {X : Km} {J : Anc} {F H : Hp} {sd : En} {σ : St} {A : Addr → Prop} (R : Rel X J F H sd σ A) (a : Addr) (ha : A a) : ∃ o, H a = some o := mut_some (R.there a ha)
end
end Mir
namespace Mir
open PySem L2

/-! ### readings, weakened -/
theorem peImp {X : Cx} {e : Expr} {t t' : TE} (h : PE X e t) (m : ∀ σ H Q, t' σ H Q → t σ H Q) : PE X e t' := ⟨fun pins s σ H Q I q => h.run pins s σ H Q I (m σ H Q q)⟩
theorem ptImp {X : Cx} {e : Expr} {t t' : TT} (h : PT X e t) (m : ∀ σ H Q, t' σ H Q → t σ H Q) : PT X e t' := ⟨fun pins s σ H Q I q => h.run pins s σ H Q I (m σ H Q q)⟩
theorem pwImp {X : Cx} {e : Expr} {t t' : TT} (h : PW X e t) (m : ∀ σ H Q, t' σ H Q → t σ H Q) : PW X e t' := ⟨fun wh pins s σ H Q I q => h.run wh pins s σ H Q I (m σ H Q q)⟩
theorem paImp {X : Cx} {e : List Expr} {t t' : TA} (h : PA X e t) (m : ∀ σ H Q, t' σ H Q → t σ H Q) : PA X e t' := ⟨fun pos pins s σ H Q I q => h.run pos pins s σ H Q I (m σ H Q q)⟩
theorem psImp {X : Cx} {e : Stmt} {t t' : TS} (h : PS X e t) (m : ∀ D σ H, t' D σ H → t D σ H) : PS X e t' := ⟨fun pins s σ H Q I q => h.run pins s σ H Q I (m Q σ H q)⟩
theorem pssImp {X : Cx} {e : List Stmt} {t t' : TS} (h : PSs X e t) (m : ∀ D σ H, t' D σ H → t D σ H) : PSs X e t' := ⟨fun pins s σ H Q I q => h.run pins s σ H Q I (m Q σ H q)⟩

def Res.bind {α β : Type} (r : Res α) (k : α → En → Res β) : Res β := match r with
  | .ok a s => k a s
  | .ex c fs s => .ex c fs s
  | .bad => .bad
/-- a value that may not be there -/
def ret {α : Type} (o : Option α) (s : En) : Res α := match o with
  | some a => .ok a s
  | none => .bad

/-- a caught or flying error -/
def Exc (X : Km) (A : Addr → Prop) (F H : Hp) (c : Str) (fs : List (Str × D)) (cls : Value) (dx : Option Addr) : Prop :=
  ∃ C : Addr, X.mg c = some (.ref C) ∧ cls = .ref C ∧ ((fs = [] ∧ dx = none) ∨ ∃ (f : Str) (d : D) (a : Addr) (v : V), fs = [(f, d)] ∧ dx = some a ∧ H a = some (.xd [(f, v)]) ∧ ¬ A a ∧ Rep X.K X.mg F d v)

section
variable (X : Km) (J : Anc) (W : WX)
/-- what is wanted of a result; P tells how it lies -/
def GOk {α β : Type} (P : Hp → α → β → Prop) (σ : St) (A0 : Addr → Prop) (F0 H0 : Hp) (Q : β → Hp → Prop) : Res α → Prop
  | .ok a s => ∀ (b : β) (F H : Hp) (A : Addr → Prop), Stp A0 F0 H0 A F H → Rel X J F H s σ A → P F a b → Q b H
  | .ex c fs s => ∀ (cls : Value) (dx : Option Addr) (F H : Hp) (A : Addr → Prop), Stp A0 F0 H0 A F H → Rel X J F H s σ A → Exc X A F H c fs cls dx → W cls dx σ H
  | .bad => False
def tG {α β : Type} (P : Hp → α → β → Prop) (m : En → Res α) (σ : St) (H : Hp) (Q : β → Hp → Prop) : Prop := ∃ (F : Hp) (A : Addr → Prop) (s : En), Rel X J F H s σ A ∧ GOk X J W P σ A F H Q (m s)
abbrev PRep (F : Hp) (d : D) (v : V) : Prop := Rep X.K X.mg F d v
abbrev PEq (α : Type) (_ : Hp) (a b : α) : Prop := a = b
def tE (m : ME) : TE := tG X J W (PRep X) m
def tT (m : MT) : TT := tG X J W (PEq Bool) m
/-- an operand: a datum, or a slot whose container is lent -/
inductive AV where
  | d (x : D) | own (i : Nat)
inductive A1 (σ : St) (F : Hp) : AV → V → Prop
  | d {x : D} {v : V} : Rep X.K X.mg F x v → A1 σ F (.d x) v
  | own {i : Nat} {v : V} : σ[i]? = some (some v) → A1 σ F (.own i) v
inductive AR (σ : St) (F : Hp) : List AV → List V → Prop
  | nil : AR σ F [] []
  | cons {x : AV} {v : V} {xs : List AV} {vs : List V} : A1 X σ F x v → AR σ F xs vs → AR σ F (x :: xs) (v :: vs)
abbrev MO := En → Res AV
abbrev MA := En → Res (List AV)
def tO (m : MO) : TE := fun σ H Q => tG X J W (A1 X σ) m σ H Q
def tAr (m : MA) : TA := fun σ H Q => tG X J W (AR X σ) m σ H Q
/-- a statement's -/
def SOk (D : Ends) (A0 : Addr → Prop) (F0 H0 : Hp) : Out → Prop
  | .nx s => ∀ (σ : St) (F H : Hp) (A : Addr → Prop), Stp A0 F0 H0 A F H → Rel X J F H s σ A → D.nx σ H
  | .bk s => ∀ (σ : St) (F H : Hp) (A : Addr → Prop), Stp A0 F0 H0 A F H → Rel X J F H s σ A → D.bk σ H
  | .ct s => ∀ (σ : St) (F H : Hp) (A : Addr → Prop), Stp A0 F0 H0 A F H → Rel X J F H s σ A → D.ct σ H
  | .rt d s => ∀ (v : V) (σ : St) (F H : Hp) (A : Addr → Prop), Stp A0 F0 H0 A F H → Rel X J F H s σ A → Rep X.K X.mg F d v → D.rt v H
  | .ro d s => ∀ (v : V) (σ : St) (F H : Hp) (A : Addr → Prop) (B : List Addr), Stp A0 F0 H0 A F H → Rel X J F H s σ A → Own X.K X.mg F H d v B → (∀ a ∈ B, F a = none ∧ ¬ A a ∧ (A0 a ∨ H0 a = none)) → D.rt v H
  | .ex c fs s => ∀ (cls : Value) (dx : Option Addr) (σ : St) (F H : Hp) (A : Addr → Prop), Stp A0 F0 H0 A F H → Rel X J F H s σ A → Exc X A F H c fs cls dx → W cls dx σ H
  | .bad => False
def tS (m : MS) : TS := fun D σ H => ∃ (F : Hp) (A : Addr → Prop) (s : En), Rel X J F H s σ A ∧ SOk X J W D A F H (m s)
end

section
variable {X : Km} {J : Anc} {W : WX} {α β γ δ : Type} {P : Hp → α → β → Prop} {P' : Hp → γ → δ → Prop} {σ : St} {A A1 : Addr → Prop} {F H F1 H1 : Hp} {s s1 : En} {Q : β → Hp → Prop} {Q' : δ → Hp → Prop}
theorem GOk.shift (S : Stp A F H A1 F1 H1) {r : Res α} (h : GOk X J W P σ A F H Q r) : GOk X J W P σ A1 F1 H1 Q r := by
  cases r with
  | ok a s => exact fun b F2 H2 A2 S2 => h b F2 H2 A2 (S.trans S2)
  | ex c fs s => exact fun cls dx F2 H2 A2 S2 => h cls dx F2 H2 A2 (S.trans S2)
  | bad => exact h
theorem SOk.shift {D : Ends} (S : Stp A F H A1 F1 H1) {r : Out} (h : SOk X J W D A F H r) : SOk X J W D A1 F1 H1 r := by
  cases r with
  | nx s => exact fun σ F2 H2 A2 S2 => h σ F2 H2 A2 (S.trans S2)
  | bk s => exact fun σ F2 H2 A2 S2 => h σ F2 H2 A2 (S.trans S2)
  | ct s => exact fun σ F2 H2 A2 S2 => h σ F2 H2 A2 (S.trans S2)
  | rt d s => exact fun v σ F2 H2 A2 S2 => h v σ F2 H2 A2 (S.trans S2)
  | ro d s =>
    refine fun v σ F2 H2 A2 B S2 R o hb => h v σ F2 H2 A2 B (S.trans S2) R o fun a ha => ?_
    obtain ⟨q1, q2, q3⟩ := hb a ha
    refine ⟨q1, q2, ?_⟩
    rcases q3 with q3 | q3
    · exact S.own a q3
    · by_cases n : A a
      · exact .inl n
      · cases e : H a with
        | none => exact .inr rfl
        | some o => rw [S.keep a o e n] at q3; cases q3
  | ex c fs s => exact fun cls dx σ F2 H2 A2 S2 => h cls dx σ F2 H2 A2 (S.trans S2)
  | bad => exact h
/-- one part, then what follows -/
theorem bindG {m : En → Res α} {k : α → En → Res γ} {T : β → Hp → Prop} (R : Rel X J F H s σ A) (h : GOk X J W P' σ A F H Q' ((m s).bind k))
    (hk : ∀ (a : α) (s1 : En) (b : β) (F1 H1 : Hp) (A1 : Addr → Prop), Stp A F H A1 F1 H1 → Rel X J F1 H1 s1 σ A1 → P F1 a b → GOk X J W P' σ A1 F1 H1 Q' (k a s1) → T b H1) : tG X J W P m σ H T := by
  refine ⟨F, A, s, R, ?_⟩
  cases e : m s with
  | ok a s1 =>
    rw [e] at h
    exact fun b F1 H1 A1 S R1 p => hk a s1 b F1 H1 A1 S R1 p (GOk.shift S h)
  | ex c fs s1 =>
    rw [e] at h
    exact h
  | bad =>
    rw [e] at h
    exact h
/-- .. in a statement -/
def Res.out {α : Type} (r : Res α) (k : α → En → Out) : Out := match r with
  | .ok a s => k a s
  | .ex c fs s => .ex c fs s
  | .bad => .bad
theorem bindS {D : Ends} {m : En → Res α} {k : α → En → Out} {T : β → Hp → Prop} (R : Rel X J F H s σ A) (h : SOk X J W D A F H ((m s).out k))
    (hk : ∀ (a : α) (s1 : En) (b : β) (F1 H1 : Hp) (A1 : Addr → Prop), Stp A F H A1 F1 H1 → Rel X J F1 H1 s1 σ A1 → P F1 a b → SOk X J W D A1 F1 H1 (k a s1) → T b H1) : tG X J W P m σ H T := by
  refine ⟨F, A, s, R, ?_⟩
  cases e : m s with
  | ok a s1 =>
    rw [e] at h
    exact fun b F1 H1 A1 S R1 p => hk a s1 b F1 H1 A1 S R1 p (SOk.shift S h)
  | ex c fs s1 =>
    rw [e] at h
    exact fun cls dx F1 H1 A1 S R1 x => h cls dx σ F1 H1 A1 S R1 x
  | bad =>
    rw [e] at h
    exact h
/-- a value at hand -/
theorem GOk.here {a : α} {b : β} (R : Rel X J F H s σ A) (p : P F a b) (h : GOk X J W P σ A F H Q (.ok a s)) : Q b H := h b F H A Stp.refl R p
/-- a new frozen thing -/
theorem Rel.alloc {p : Addr} {o : HO} (R : Rel X J F H s σ A) (hp : H p = none) : Rel X J (upd F p o) (upd H p o) s σ A ∧ Stp A F H A (upd F p o) (upd H p o) := by
  have fp : F p = none := by
    cases e : F p with
    | none => rfl
    | some u => rw [R.sub p u e] at hp; cases hp
  have nA : ∀ a, A a → a ≠ p := fun a ha z => by
    obtain ⟨u, hu⟩ := R.ex a ha
    rw [z, hp] at hu; cases hu
  have sF : Sub F (upd F p o) := fun a u h => by rw [upd_ne (ne_of_none h fp)]; exact h
  have sH : Sub H (upd H p o) := fun a u h => by rw [upd_ne (ne_of_none h hp)]; exact h
  have S : Stp A F H A (upd F p o) (upd H p o) := by
    refine ⟨fun a u h _ => sH a u h, sF, fun a u h n => ?_, fun a h => .inl h⟩
    by_cases e : a = p
    · rw [e]; exact .inl hp
    · rw [upd_ne e, n] at h; cases h
  refine ⟨⟨fun a u h => ?_, fun i d e => (R.frz i d e).imp fun v q => ⟨q.1, q.2.mono sF⟩, ?_, fun a ha => ?_, fun a ha => ?_, fun i c fs h => ?_, R.anch, R.len⟩, S⟩
  · by_cases e : a = p
    · subst e; rw [upd_same] at h ⊢; exact h
    · rw [upd_ne e] at h ⊢; exact R.sub a u h
  · obtain ⟨fp, h1, h2, h3⟩ := R.lay
    refine ⟨fp, fun i d e => ?_, h2, h3⟩
    obtain ⟨v, q1, q2⟩ := h1 i d e
    exact ⟨v, q1, q2.keep sF fun a _ u h => sH a u h⟩
  · rw [upd_ne (nA a ha)]; exact R.free a ha
  · rw [upd_ne (nA a ha)]; exact R.there a ha
  · obtain ⟨a, oe, C, q1, q2, q3, q4, q5⟩ := R.exn i c fs h
    refine ⟨a, oe, C, q1, q2, q3, q4, q5.imp id ?_⟩
    rintro ⟨f, d, dx, v, e1, e2, e3, e4, e5⟩
    exact ⟨f, d, dx, v, e1, e2, sH _ _ e3, e4, e5.mono sF⟩
theorem Rel.not {a : Addr} {o : HO} (R : Rel X J F H s σ A) (h : F a = some o) : ¬ A a := fun z => by rw [R.free a z] at h; cases h
end
end Mir
namespace Mir
open PySem L2

/-! ### what an operand looks like -/
def Vw (K : PySem.W.Frag) (mg : Str → Option Value) (F H : Hp) (x : D) (v : V) : Prop := match x with
  | .lst ds => ∃ (a : Addr) (vs : List V), v = .ref a ∧ SqL K H a vs ∧ Reps K mg F ds vs
  | .dct kvs => ∃ (a : Addr) (xs : List (Key × V)), v = .ref a ∧ H a = some (.dK xs) ∧ RepK K mg F kvs xs
  | .dtt kvs => ∃ (a : Addr) (xs : List (List Key × V)), v = .ref a ∧ H a = some (.dT xs) ∧ RepT K mg F kvs xs
  | .ins c fs => ∃ (a C dx : Addr) (xs : List (Str × V)) (B : List Addr), v = .ref a ∧ H a = some (.ins C dx xs) ∧ mg c = some (.ref C) ∧ OwnF K mg F H fs xs B
  | x => Rep K mg F x v
section
variable {K : PySem.W.Frag} {mg : Str → Option Value} {F F' H H' : Hp}
theorem RepF.own : ∀ {ds : List (Str × D)} {vs : List (Str × V)}, RepF K mg F ds vs → OwnF K mg F H ds vs []
  | _, _, .nil => .nil
  | _, _, .cons h r => .frz h (RepF.own r)
theorem Vw.rep (s : Sub F H) {d : D} {v : V} (r : Rep K mg F d v) : Vw K mg F H d v := by
  cases r with
  | non => exact .non
  | bl b => exact .bl b
  | int i => exact .int i
  | str x => exact .str x
  | tup h r => exact .tup h r
  | lst h r => exact ⟨_, _, rfl, s.sqL h, r⟩
  | dK h r => exact ⟨_, _, rfl, s _ _ h, r⟩
  | dT h r => exact ⟨_, _, rfl, s _ _ h, r⟩
  | ins h g r => exact ⟨_, _, _, _, _, rfl, s _ _ h, g, r.own⟩
theorem Vw.own {d : D} {v : V} {A : List Addr} (r : Own K mg F H d v A) : Vw K mg F H d v := by
  cases r with
  | lst h r => exact ⟨_, _, rfl, .of h, r⟩
  | dK h r => exact ⟨_, _, rfl, h, r⟩
  | dT h r => exact ⟨_, _, rfl, h, r⟩
  | ins h g r n => exact ⟨_, _, _, _, _, rfl, h, g, r⟩
inductive Vws (K : PySem.W.Frag) (mg : Str → Option Value) (F H : Hp) : List D → List V → Prop
  | nil : Vws K mg F H [] []
  | cons {d : D} {v : V} {ds : List D} {vs : List V} : Vw K mg F H d v → Vws K mg F H ds vs → Vws K mg F H (d :: ds) (v :: vs)

/-- growing by new frozen things alone -/
structure Grow (F H F' H' : Hp) : Prop where
  f : Sub F F'
  h : Sub H H'
  n : ∀ a o, F' a = some o → F a = none → H a = none
  s : Sub F' H'
theorem Grow.refl (s : Sub F H) : Grow F H F H := ⟨Sub.refl _, Sub.refl _, fun a o h n => (by rw [h] at n; cases n), s⟩
theorem Grow.trans {F1 H1 : Hp} (a : Grow F H F1 H1) (b : Grow F1 H1 F' H') : Grow F H F' H' := by
  refine ⟨a.f.trans b.f, a.h.trans b.h, fun x o h n => ?_, b.s⟩
  cases e : F1 x with
  | some u => exact a.n x u e n
  | none =>
    have q := b.n x o h e
    cases e2 : H x with
    | none => rfl
    | some u => rw [a.h x u e2] at q; cases q
theorem Grow.one {p : Addr} {o : HO} (s : Sub F H) (hp : H p = none) : Grow F H (upd F p o) (upd H p o) := by
  have fp : F p = none := by
    cases e : F p with
    | none => rfl
    | some u => rw [s p u e] at hp; cases hp
  refine ⟨fun a u h => (by rw [upd_ne (ne_of_none h fp)]; exact h), fun a u h => (by rw [upd_ne (ne_of_none h hp)]; exact h), fun a u h n => ?_, fun a u h => ?_⟩
  · by_cases e : a = p
    · rw [e]; exact hp
    · rw [upd_ne e, n] at h; cases h
  · by_cases e : a = p
    · subst e; rw [upd_same] at h ⊢; exact h
    · rw [upd_ne e] at h ⊢; exact s a u h
end
section
variable {X : Km} {J : Anc} {σ : St} {A : Addr → Prop} {F F' H H' : Hp} {s : En}
theorem Rel.grow (R : Rel X J F H s σ A) (g : Grow F H F' H') : Rel X J F' H' s σ A := by
  refine ⟨g.s, fun i d e => (R.frz i d e).imp fun v q => ⟨q.1, q.2.mono g.f⟩, ?_, fun a ha => ?_, fun a ha => ?_, fun i c fs h => ?_, R.anch, R.len⟩
  · obtain ⟨fp, h1, h2, h3⟩ := R.lay
    refine ⟨fp, fun i d e => ?_, h2, h3⟩
    obtain ⟨v, q1, q2⟩ := h1 i d e
    exact ⟨v, q1, q2.keep g.f fun a _ u h => g.h a u h⟩
  · obtain ⟨u, hu⟩ := R.ex a ha
    cases e : F' a with
    | none => rfl
    | some o => rw [g.n a o e (R.free a ha)] at hu; cases hu
  · obtain ⟨u, hu⟩ := R.ex a ha
    have m := R.there a ha
    rw [hu] at m; rw [g.h a u hu]; exact m
  · obtain ⟨a, oe, C, q1, q2, q3, q4, q5⟩ := R.exn i c fs h
    refine ⟨a, oe, C, q1, q2, q3, q4, q5.imp id ?_⟩
    rintro ⟨f, d, dx, v, e1, e2, e3, e4, e5⟩
    exact ⟨f, d, dx, v, e1, e2, g.h _ _ e3, e4, e5.mono g.f⟩
theorem Grow.stp (g : Grow F H F' H') : Stp A F H A F' H' := ⟨fun a o h _ => g.h a o h, g.f, fun a o h n => .inl (g.n a o h n), fun a h => .inl h⟩
end

def fill (s : En) : AV → Option D
  | .d x => some x
  | .own i => match s[i]? with
    | some (.b x) => some x
    | _ => none
def fills (s : En) : List AV → Option (List D)
  | [] => some []
  | a :: as => match fill s a, fills s as with
    | some d, some ds => some (d :: ds)
    | _, _ => none
section
variable {X : Cx} {J : Anc} {W : WX} {σ : St} {A : Addr → Prop} {F H : Hp} {s : En}
theorem Rel.fill {a : AV} {v : V} {x : D} (R : Rel (km X) J F H s σ A) (p : A1 (km X) σ F a v) (e : fill s a = some x) : Vw X.K X.mg F H x v := by
  cases p with
  | d p =>
    cases e
    exact .rep R.sub p
  | @own i v h =>
    obtain ⟨fp, h1, h2, h3⟩ := R.lay
    unfold Mir.fill at e
    dsimp only at e
    split at e
    · rename_i y hy
      cases e
      obtain ⟨v', q1, q2⟩ := h1 i _ hy
      rw [h] at q1; cases q1
      exact .own q2
    · cases e
theorem Rel.fills (R : Rel (km X) J F H s σ A) : ∀ {as : List AV} {vs : List V} {xs : List D}, AR (km X) σ F as vs → fills s as = some xs → Vws X.K X.mg F H xs vs
  | _, _, _, .nil, e => by cases e; exact .nil
  | _, _, _, .cons p r, e => by
    unfold Mir.fills at e
    split at e
    · rename_i d ds h1 h2
      cases e
      exact .cons (R.fill p h1) (R.fills r h2)
    · cases e

/-! ### operands -/
def eO (m : ME) : MO := fun s => (m s).bind fun d s => .ok (.d d) s
def oOwn (i : Nat) : MO := fun s => match s[i]? with
  | some (.b _) => .ok (.own i) s
  | _ => .bad
def mVar (i : Nat) : ME := fun s => match s[i]? with
  | some (.d d) => .ok d s
  | _ => .bad
def mC (d : D) : ME := fun s => .ok d s
theorem ge_o {e : Expr} {m : ME} (h : PE X e (tE (km X) J W m)) : PE X e (tO (km X) J W (eO m)) := peImp h fun σ H Q ⟨F, A, s, R, q⟩ =>
  bindG (P := fun F d v => Rep X.K X.mg F d v) (P' := A1 (km X) σ) R q fun d s1 v F1 H1 A1 S R1 p q1 => GOk.here R1 (.d p) q1
theorem go_own {i : Nat} {x : Str} {pos : Pos} (h : PE X (.Name x pos) (tVar i)) : PE X (.Name x pos) (tO (km X) J W (oOwn i)) := peImp h fun σ H Q ⟨F, A, s, R, q⟩ => by
  unfold oOwn at q
  split at q
  · rename_i y hy
    obtain ⟨fp, h1, _⟩ := R.lay
    obtain ⟨v, q1, q2⟩ := h1 i _ hy
    exact ⟨v, q1, GOk.here R (.own q1) q⟩
  · exact q.elim
theorem ge_var {i : Nat} {x : Str} {pos : Pos} (h : PE X (.Name x pos) (tVar i)) : PE X (.Name x pos) (tE (km X) J W (mVar i)) := peImp h fun σ H Q ⟨F, A, s, R, q⟩ => by
  unfold mVar at q
  split at q
  · rename_i y hy
    obtain ⟨v, q1, q2⟩ := R.frz i _ hy
    exact ⟨v, q1, GOk.here (P := fun F d v => Rep X.K X.mg F d v) R q2 q⟩
  · exact q.elim
theorem ge_c {e : Expr} {v : V} {d : D} (h : PE X e (tC v)) (r : ∀ F, Rep X.K X.mg F d v) : PE X e (tE (km X) J W (mC d)) := peImp h fun σ H Q ⟨F, A, s, R, q⟩ =>
  GOk.here (P := fun F d v => Rep X.K X.mg F d v) R (r F) q
theorem ge_int {i j pos} : PE X (.Constant (.int i) j pos) (tE (km X) J W (mC (.int i))) := ge_c pe_int fun _ => .int i
theorem ge_bl {b j pos} : PE X (.Constant (.bool b) j pos) (tE (km X) J W (mC (.bl b))) := ge_c pe_bl fun _ => .bl b
theorem ge_non {j pos} : PE X (.Constant .none j pos) (tE (km X) J W (mC .non)) := ge_c pe_non fun _ => .non
theorem ge_str {x j pos} : PE X (.Constant (.str x) j pos) (tE (km X) J W (mC (.str x))) := ge_c pe_str fun _ => .str x

/-! ### operations on values -/
def OpS (K : PySem.W.Frag) (mg : Str → Option Value) (r : R2) (f : D → D → Option D) : Prop := ∀ (F H : Hp) (x y : V) (d1 d2 d : D) (Q : VK), Sub F H → Vw K mg F H d1 x → Vw K mg F H d2 y → f d1 d2 = some d →
  (∀ v F' H', Grow F H F' H' → Rep K mg F' d v → Q v H') → r x y H Q
def UnS (K : PySem.W.Frag) (mg : Str → Option Value) (r : V → Hp → VK → Prop) (f : D → Option D) : Prop := ∀ (F H : Hp) (x : V) (d1 d : D) (Q : VK), Sub F H → Vw K mg F H d1 x → f d1 = some d →
  (∀ v F' H', Grow F H F' H' → Rep K mg F' d v → Q v H') → r x H Q
def FnS (K : PySem.W.Frag) (mg : Str → Option Value) (r : List V → Hp → VK → Prop) (f : List D → Option D) : Prop := ∀ (F H : Hp) (vs : List V) (ds : List D) (d : D) (Q : VK), Sub F H → Vws K mg F H ds vs → f ds = some d →
  (∀ v F' H', Grow F H F' H' → Rep K mg F' d v → Q v H') → r vs H Q
def mOp2 (f : D → D → Option D) (oa ob : MO) : ME := fun s => (oa s).bind fun a s1 => (ob s1).bind fun b s2 => match fill s2 a, fill s2 b with
  | some x, some y => ret (f x y) s2
  | _, _ => .bad
def mOp1 (f : D → Option D) (oa : MO) : ME := fun s => (oa s).bind fun a s1 => match fill s1 a with
  | some x => ret (f x) s1
  | _ => .bad
def mFn (f : List D → Option D) (oa : MA) : ME := fun s => (oa s).bind fun a s1 => match fills s1 a with
  | some x => ret (f x) s1
  | _ => .bad
theorem GOk.ret {o : Option D} {Q : VK} (R : Rel (km X) J F H s σ A) (q : GOk (km X) J W (PRep (km X)) σ A F H Q (ret o s)) {T : Prop} (h : ∀ d, o = some d → (∀ v F' H', Grow F H F' H' → Rep X.K X.mg F' d v → Q v H') → T) : T := by
  cases o with
  | none => exact q.elim
  | some d => exact h d rfl fun v F' H' g r => q v F' H' A g.stp (R.grow g) r
theorem op2_run {σ : St} {H : Hp} {Q : VK} {oa ob : MO} {r : R2} {f : D → D → Option D} (hs : OpS X.K X.mg r f) : tE (km X) J W (mOp2 f oa ob) σ H Q → tOp r (tO (km X) J W oa) (tO (km X) J W ob) σ H Q := fun ⟨F, A, s, R, q⟩ =>
  bindG (P := A1 (km X) σ) (P' := PRep (km X)) R q fun a s1 x F1 H1 A1 S1 R1 p1 q1 => bindG (P := Mir.A1 (km X) σ) (P' := PRep (km X)) R1 q1 fun b s2 y F2 H2 A2 S2 R2 p2 q2 => by
    have p1' : Mir.A1 (km X) σ F2 a x := by
      cases p1 with
      | d p => exact .d (p.mono S2.mono)
      | own h => exact .own h
    split at q2
    · rename_i d1 d2 e1 e2
      exact GOk.ret R2 q2 fun d e k => hs F2 H2 x y d1 d2 d Q R2.sub (R2.fill p1' e1) (R2.fill p2 e2) e k
    · exact q2.elim
theorem ge_bin {a b : Expr} {op : Operator} {pos : Pos} {oa ob : MO} {r : R2} {f : D → D → Option D} (ho : OpR X (binaryOp op) r) (hs : OpS X.K X.mg r f) (ha : PE X a (tO (km X) J W oa)) (hb : PE X b (tO (km X) J W ob)) :
    PE X (.BinOp a op b pos) (tE (km X) J W (mOp2 f oa ob)) := peImp (pe_op ho ha hb) fun _ _ _ q => op2_run hs q
theorem ge_cmp {a b : Expr} {op : CmpOp} {pos : Pos} {oa ob : MO} {r : R2} {f : D → D → Option D} (ho : OpR X (compareOp op) r) (hs : OpS X.K X.mg r f) (ha : PE X a (tO (km X) J W oa)) (hb : PE X b (tO (km X) J W ob)) (hm : behindInMarks op b = false) :
    PE X (.Compare a [op] [b] pos) (tE (km X) J W (mOp2 f oa ob)) := peImp (pe_cmpR ho ha hb hm) fun _ _ _ q => op2_run hs q
theorem ge_un {a : Expr} {op : UnaryOp} {pos : Pos} {oa : MO} {r : V → Hp → VK → Prop} {f : D → Option D} (ho : UnR X (unaryOp op) r) (hs : UnS X.K X.mg r f) (ha : PE X a (tO (km X) J W oa)) :
    PE X (.UnaryOp op a pos) (tE (km X) J W (mOp1 f oa)) := peImp (pe_un ho ha) fun σ H Q ⟨F, A, s, R, q⟩ =>
  bindG (P := A1 (km X) σ) (P' := PRep (km X)) R q fun a s1 x F1 H1 A1 S1 R1 p1 q1 => by
    split at q1
    · rename_i d1 e1
      exact GOk.ret R1 q1 fun d e k => hs F1 H1 x d1 d Q R1.sub (R1.fill p1 e1) e k
    · exact q1.elim
/-- arguments -/
def aNil : MA := fun s => .ok [] s
def aCons (o : MO) (r : MA) : MA := fun s => (o s).bind fun a s1 => (r s1).bind fun as s2 => .ok (a :: as) s2
theorem ga_nil : PA X [] (tAr (km X) J W aNil) := paImp pa_nil fun σ H Q ⟨F, A, s, R, q⟩ => GOk.here (P := AR (km X) σ) R .nil q
theorem ga_cons {e : Expr} {es : List Expr} {o : MO} {m : MA} (ha : PE X e (tO (km X) J W o)) (hr : PA X es (tAr (km X) J W m)) (hs : starEach (e :: es) X.env = (false, eval e X.env) :: starEach es X.env := by rfl) : PA X (e :: es) (tAr (km X) J W (aCons o m)) :=
  paImp (pa_cons ha hr hs) fun σ H Q ⟨F, A, s, R, q⟩ =>
    bindG (P := A1 (km X) σ) (P' := AR (km X) σ) R q fun a s1 x F1 H1 A1 S1 R1 p1 q1 => bindG (P := AR (km X) σ) (P' := AR (km X) σ) R1 q1 fun b s2 y F2 H2 A2 S2 R2 p2 q2 => by
      have p1' : Mir.A1 (km X) σ F2 a x := by
        cases p1 with
        | d p => exact .d (p.mono S2.mono)
        | own h => exact .own h
      exact GOk.here R2 (.cons p1' p2) q2
theorem fn_run {σ : St} {H : Hp} {Q : VK} {oa : MA} {r : List V → Hp → VK → Prop} {f : List D → Option D} (hs : FnS X.K X.mg r f) : tE (km X) J W (mFn f oa) σ H Q → tCB r (tAr (km X) J W oa) σ H Q := fun ⟨F, A, s, R, q⟩ =>
  bindG (P := AR (km X) σ) (P' := PRep (km X)) R q fun a s1 x F1 H1 A1 S1 R1 p1 q1 => by
    split at q1
    · rename_i ds e1
      exact GOk.ret R1 q1 fun d e k => hs F1 H1 x ds d Q R1.sub (R1.fills p1 e1) e k
    · exact q1.elim
/-- f(e, ..), f a built-in function; a built-in class -/
theorem ge_callB {x : Str} {p pos : Pos} {e : Expr} {es : List Expr} {t : MA} {id : String} {r : List V → Hp → VK → Prop} {f : List D → Option D} (hc : CallR X (.builtin id) r) (hs : FnS X.K X.mg r f) (hg : Gl X x) (hm : X.mg x = none) (hv : bootBuiltins x = some (.builtin id)) (ha : PA X (e :: es) (tAr (km X) J W t)) (hn : x ≠ "__name__" := by decide) (hdb : (x == ("__debug__" : Str)) = false := by decide)
    (he : starEach (e :: es) X.env = (false, eval e X.env) :: starEach es X.env := by rfl) (hpl : (backTo pos (starEach es X.env)).any (·.1) = false := by rfl) : PE X (.Call (.Name x p) (e :: es) [] pos) (tE (km X) J W (mFn f t)) :=
  peImp (pe_callB hc hg hm hv ha hn hdb he hpl) fun _ _ _ q => fn_run hs q
theorem ge_callTy {x : Str} {p pos : Pos} {e : Expr} {es : List Expr} {t : MA} {T : String} {r : List V → Hp → VK → Prop} {f : List D → Option D} (hc : CallR X (.type T) r) (hs : FnS X.K X.mg r f) (hg : Gl X x) (hm : X.mg x = none) (hv : bootBuiltins x = some (.type T)) (ha : PA X (e :: es) (tAr (km X) J W t)) (hn : x ≠ "__name__" := by decide) (hdb : (x == ("__debug__" : Str)) = false := by decide)
    (he : starEach (e :: es) X.env = (false, eval e X.env) :: starEach es X.env := by rfl) (hpl : (backTo pos (starEach es X.env)).any (·.1) = false := by rfl) : PE X (.Call (.Name x p) (e :: es) [] pos) (tE (km X) J W (mFn f t)) :=
  peImp (pe_callTy hc hg hm hv ha hn hdb he hpl) fun _ _ _ q => fn_run hs q

/-! ### tests -/
def mTest (m : ME) : MT := fun s => (m s).bind fun d s => match d with
  | .bl b => .ok b s
  | _ => .bad
theorem test_run {σ : St} {H : Hp} {Q : Bool → Hp → Prop} {m : ME} : tT (km X) J W (mTest m) σ H Q → tE (km X) J W m σ H fun x H1 => ∃ c, x = .bl c ∧ Q c H1 := fun ⟨F, A, s, R, q⟩ =>
  bindG (P := PRep (km X)) (P' := PEq Bool) R q fun d s1 x F1 H1 A1 S1 R1 p1 q1 => by
    split at q1
    · cases p1
      exact ⟨_, rfl, GOk.here (P := PEq Bool) R1 rfl q1⟩
    · exact q1.elim
theorem gt_val {e : Expr} {m : ME} (h : PE X e (tE (km X) J W m)) (he : ∀ whole, isTrue e X.env whole = (do let v ← whole; standAt e.pos; holding [v] (truthy v)) := by intro _; rfl) : PT X e (tT (km X) J W (mTest m)) := ptImp (pt_val h he) fun _ _ _ q => test_run q
theorem gt_cmp {a b : Expr} {op : CmpOp} {pos : Pos} {oa ob : MO} {r : R2} {f : D → D → Option D} (ho : OpR X (compareOp op) r) (hs : OpS X.K X.mg r f) (ha : PE X a (tO (km X) J W oa)) (hb : PE X b (tO (km X) J W ob)) (hm : behindInMarks op b = false) :
    PT X (.Compare a [op] [b] pos) (tT (km X) J W (mTest (mOp2 f oa ob))) := ptImp (pt_cmpR ho ha hb hm) fun _ _ _ q => by
  obtain ⟨F, A, s, R, q⟩ := test_run q
  exact op2_run hs ⟨F, A, s, R, q⟩
def mAnd (a b : MT) : MT := fun s => (a s).bind fun c s1 => match c with
  | true => b s1
  | false => .ok false s1
def mOr (a b : MT) : MT := fun s => (a s).bind fun c s1 => match c with
  | true => .ok true s1
  | false => b s1
def mNot (a : MT) : MT := fun s => (a s).bind fun c s1 => .ok (!c) s1
section
variable {a b : Expr} {rest : List Expr} {pos : Pos} {tA tB' : MT}
theorem gw_and1 (ha : PT X a (tT (km X) J W tA)) : PW X (.BoolOp .And [a] pos) (tT (km X) J W tA) := pw_and1 ha
theorem gw_or1 (ha : PT X a (tT (km X) J W tA)) : PW X (.BoolOp .Or [a] pos) (tT (km X) J W tA) := pw_or1 ha
theorem gw_and (ha : PT X a (tT (km X) J W tA)) (hb : PW X (.BoolOp .And (b :: rest) pos) (tT (km X) J W tB')) : PW X (.BoolOp .And (a :: b :: rest) pos) (tT (km X) J W (mAnd tA tB')) := pwImp (pw_and ha hb) fun σ H Q ⟨F, A, s, R, q⟩ =>
  bindG (P := PEq Bool) (P' := PEq Bool) R q fun c s1 x F1 H1 A1 S1 R1 p1 q1 => by
    cases p1
    cases c with
    | true => rw [if_pos rfl]; exact ⟨F1, A1, s1, R1, q1⟩
    | false => rw [if_neg (by decide)]; exact GOk.here (P := PEq Bool) R1 rfl q1
theorem gw_or (ha : PT X a (tT (km X) J W tA)) (hb : PW X (.BoolOp .Or (b :: rest) pos) (tT (km X) J W tB')) : PW X (.BoolOp .Or (a :: b :: rest) pos) (tT (km X) J W (mOr tA tB')) := pwImp (pw_or ha hb) fun σ H Q ⟨F, A, s, R, q⟩ =>
  bindG (P := PEq Bool) (P' := PEq Bool) R q fun c s1 x F1 H1 A1 S1 R1 p1 q1 => by
    cases p1
    cases c with
    | true => rw [if_pos rfl]; exact GOk.here (P := PEq Bool) R1 rfl q1
    | false => rw [if_neg (by decide)]; exact ⟨F1, A1, s1, R1, q1⟩
theorem gt_not (ha : PT X a (tT (km X) J W tA)) : PT X (.UnaryOp .Not a pos) (tT (km X) J W (mNot tA)) := ptImp (pt_not ha) fun σ H Q ⟨F, A, s, R, q⟩ =>
  bindG (P := PEq Bool) (P' := PEq Bool) R q fun c s1 x F1 H1 A1 S1 R1 p1 q1 => by
    cases p1
    exact GOk.here (P := PEq Bool) R1 rfl q1
/-- .. as values -/
def mAndV (a b : ME) : ME := fun s => (a s).bind fun c s1 => match c with
  | .bl true => b s1
  | .bl false => .ok (.bl false) s1
  | _ => .bad
def mOrV (a b : ME) : ME := fun s => (a s).bind fun c s1 => match c with
  | .bl true => .ok (.bl true) s1
  | .bl false => b s1
  | _ => .bad
def mNotV (a : ME) : ME := fun s => (a s).bind fun c s1 => match c with
  | .bl c => .ok (.bl (!c)) s1
  | _ => .bad
variable {ma mb : ME}
theorem ge_one {op} (h : PE X a (tE (km X) J W ma)) : PE X (.BoolOp op [a] pos) (tE (km X) J W ma) := pe_one h
theorem ge_and (ha : PE X a (tE (km X) J W ma)) (hb : PE X (.BoolOp .And (b :: rest) pos) (tE (km X) J W mb)) : PE X (.BoolOp .And (a :: b :: rest) pos) (tE (km X) J W (mAndV ma mb)) := peImp (pe_and ha hb) fun σ H Q ⟨F, A, s, R, q⟩ =>
  bindG (P := PRep (km X)) (P' := PRep (km X)) R q fun c s1 x F1 H1 A1 S1 R1 p1 q1 => by
    split at q1
    · cases p1; refine ⟨true, rfl, ?_⟩; rw [if_pos rfl]; exact ⟨F1, A1, s1, R1, q1⟩
    · cases p1; refine ⟨false, rfl, ?_⟩; rw [if_neg (by decide)]; exact GOk.here (P := PRep (km X)) R1 (.bl false) q1
    · exact q1.elim
theorem ge_or (ha : PE X a (tE (km X) J W ma)) (hb : PE X (.BoolOp .Or (b :: rest) pos) (tE (km X) J W mb)) : PE X (.BoolOp .Or (a :: b :: rest) pos) (tE (km X) J W (mOrV ma mb)) := peImp (pe_or ha hb) fun σ H Q ⟨F, A, s, R, q⟩ =>
  bindG (P := PRep (km X)) (P' := PRep (km X)) R q fun c s1 x F1 H1 A1 S1 R1 p1 q1 => by
    split at q1
    · cases p1; refine ⟨true, rfl, ?_⟩; rw [if_pos rfl]; exact GOk.here (P := PRep (km X)) R1 (.bl true) q1
    · cases p1; refine ⟨false, rfl, ?_⟩; rw [if_neg (by decide)]; exact ⟨F1, A1, s1, R1, q1⟩
    · exact q1.elim
theorem ge_not (ha : PE X a (tE (km X) J W ma)) : PE X (.UnaryOp .Not a pos) (tE (km X) J W (mNotV ma)) := peImp (pe_not ha) fun σ H Q ⟨F, A, s, R, q⟩ =>
  bindG (P := PRep (km X)) (P' := PRep (km X)) R q fun c s1 x F1 H1 A1 S1 R1 p1 q1 => by
    split at q1
    · cases p1; exact ⟨_, rfl, GOk.here (P := PRep (km X)) R1 (.bl _) q1⟩
    · exact q1.elim
def mIfE (c : MT) (a b : ME) : ME := fun s => (c s).bind fun c s1 => match c with
  | true => a s1
  | false => b s1
theorem ge_if {c : Expr} (hc : PT X c (tT (km X) J W tA)) (ha : PE X a (tE (km X) J W ma)) (hb : PE X b (tE (km X) J W mb)) : PE X (.IfExp c a b pos) (tE (km X) J W (mIfE tA ma mb)) := peImp (pe_ifExp hc ha hb) fun σ H Q ⟨F, A, s, R, q⟩ =>
  bindG (P := PEq Bool) (P' := PRep (km X)) R q fun c s1 x F1 H1 A1 S1 R1 p1 q1 => by
    cases p1
    cases c with
    | true => rw [if_pos rfl]; exact ⟨F1, A1, s1, R1, q1⟩
    | false => rw [if_neg (by decide)]; exact ⟨F1, A1, s1, R1, q1⟩
end

/-! ### displays -/
def frzs : List AV → Option (List D)
  | [] => some []
  | .d x :: as => match frzs as with
    | some ds => some (x :: ds)
    | none => none
  | .own _ :: _ => none
theorem frzs_rep : ∀ {as : List AV} {vs : List V} {ds : List D}, AR (km X) σ F as vs → frzs as = some ds → Reps X.K X.mg F ds vs
  | _, _, _, .nil, e => by cases e; exact .nil
  | _, _, _, .cons (.own h) r, e => by cases e
  | _, _, _, .cons (.d p) r, e => by
    unfold frzs at e
    split at e
    · rename_i ds h2
      cases e
      exact .cons p (frzs_rep r h2)
    · cases e
def mTup (m : MA) : ME := fun s => (m s).bind fun as s1 => match frzs as with
  | some ds => if ds.length ≤ sizeLine then .ok (.tup ds) s1 else .bad
  | none => .bad
def mLst (m : MA) : ME := fun s => (m s).bind fun as s1 => match frzs as with
  | some ds => if ds.length ≤ sizeLine then .ok (.lst ds) s1 else .bad
  | none => .bad
theorem new_tup {d : List D} {vs : List V} {p : Addr} (s : Sub F H) (r : Reps X.K X.mg F d vs) (hp : H p = none) : Rep X.K X.mg (upd F p (.tup vs)) (.tup d) (.ref p) := .tup (.of upd_same) (r.mono (Grow.one s hp).f)
theorem new_lst {d : List D} {vs : List V} {p : Addr} (s : Sub F H) (r : Reps X.K X.mg F d vs) (hp : H p = none) : Rep X.K X.mg (upd F p (.lst vs)) (.lst d) (.ref p) := .lst (.of upd_same) (r.mono (Grow.one s hp).f)
theorem ge_tup {es : List Expr} {x1} {pos : Pos} {m : MA} (h : PA X es (tAr (km X) J W m)) : PE X (.Tuple es x1 pos) (tE (km X) J W (mTup m)) := peImp (pe_tup h) fun σ H Q ⟨F, A, s, R, q⟩ =>
  bindG (P := AR (km X) σ) (P' := PRep (km X)) R q fun as s1 vs F1 H1 A1 S1 R1 p1 q1 => by
    split at q1
    · rename_i ds e
      have r := frzs_rep p1 e
      split at q1
      · rename_i hz
        refine ⟨by rw [← r.length]; exact hz, fun p hp => ?_⟩
        exact q1 _ _ _ _ (Grow.one R1.sub hp).stp (R1.grow (Grow.one R1.sub hp)) (new_tup R1.sub r hp)
      · exact q1.elim
    · exact q1.elim
theorem ge_lst {es : List Expr} {pos : Pos} {m : MA} (h : PA X es (tAr (km X) J W m)) : PE X (.List es pos) (tE (km X) J W (mLst m)) := peImp (pe_lst h) fun σ H Q ⟨F, A, s, R, q⟩ =>
  bindG (P := AR (km X) σ) (P' := PRep (km X)) R q fun as s1 vs F1 H1 A1 S1 R1 p1 q1 => by
    split at q1
    · rename_i ds e
      have r := frzs_rep p1 e
      split at q1
      · rename_i hz
        refine ⟨by rw [← r.length]; exact hz, fun p hp => ?_⟩
        exact q1 _ _ _ _ (Grow.one R1.sub hp).stp (R1.grow (Grow.one R1.sub hp)) (new_lst R1.sub r hp)
      · exact q1.elim
    · exact q1.elim
end
end Mir
namespace Mir
open PySem L2

/-! ### slots stored -/
/-- slot i is none of those that stay -/
def Off (J : Anc) (i : Nat) : Prop := ∀ p ∈ J.j, p.1 ≠ i
theorem getD_set {α : Type} {l : List α} {i j : Nat} {x y : α} (h : (l.set i x)[j]? = some y) : (j = i ∧ i < l.length ∧ y = x) ∨ (j ≠ i ∧ l[j]? = some y) := by
  by_cases e : j = i
  · subst e
    by_cases hl : j < l.length
    · rw [List.getElem?_set_self hl] at h; cases h; exact .inl ⟨rfl, hl, rfl⟩
    · rw [List.getElem?_eq_none (by rw [List.length_set]; omega)] at h; cases h
  · rw [List.getElem?_set_ne (Ne.symm e)] at h
    exact .inr ⟨e, h⟩
theorem set_get_ne {σ : St} {i j : Nat} {x : Option V} {v : Option V} (e : j ≠ i) (h : σ[j]? = some v) : (σ.set i x)[j]? = some v := by rw [List.getElem?_set_ne (Ne.symm e)]; exact h
def fset (fp : Nat → List Addr) (i : Nat) (B : List Addr) : Nat → List Addr := fun j => if j = i then B else fp j
theorem fset_same {fp : Nat → List Addr} {i : Nat} {B : List Addr} : fset fp i B i = B := if_pos rfl
theorem fset_ne {fp : Nat → List Addr} {i j : Nat} {B : List Addr} (h : j ≠ i) : fset fp i B j = fp j := if_neg h
theorem fset_apart {fp : Nat → List Addr} {i : Nat} {B : List Addr} (h2 : ∀ (i j : Nat) (a : Addr), a ∈ fp i → a ∈ fp j → i = j) (hB : ∀ j a, j ≠ i → a ∈ fp j → a ∉ B) : ∀ (j k : Nat) (a : Addr), a ∈ fset fp i B j → a ∈ fset fp i B k → j = k := fun j k a hj hk => by
  by_cases ej : j = i
  · by_cases ek : k = i
    · rw [ej, ek]
    · rw [ej, fset_same] at hj; rw [fset_ne ek] at hk
      exact absurd hj (hB k a ek hk)
  · by_cases ek : k = i
    · rw [fset_ne ej] at hj; rw [ek, fset_same] at hk
      exact absurd hk (hB j a ej hj)
    · rw [fset_ne ej] at hj; rw [fset_ne ek] at hk
      exact h2 j k a hj hk
section
variable {X : Km} {J : Anc} {W : WX} {σ : St} {A : Addr → Prop} {F F' H H' : Hp} {s : En} {i : Nat} {v : V} {d : D}
theorem Rel.setD (R : Rel X J F H s σ A) (o : Off J i) (r : Rep X.K X.mg F d v) : Rel X J F H (s.set i (.d d)) (σ.set i (some v)) A := by
  refine ⟨R.sub, fun j e h => ?_, ?_, R.free, R.there, fun j c fs h => ?_, fun p hp => ?_, by rw [List.length_set, List.length_set]; exact R.len⟩
  · rcases getD_set h with ⟨rfl, hl, q⟩ | ⟨n, q⟩
    · cases q
      exact ⟨v, List.getElem?_set_self (Nat.lt_of_lt_of_le hl R.len), r⟩
    · obtain ⟨u, q1, q2⟩ := R.frz j e q
      exact ⟨u, set_get_ne n q1, q2⟩
  · obtain ⟨fp, h1, h2, h3⟩ := R.lay
    refine ⟨fp, fun j e h => ?_, h2, h3⟩
    rcases getD_set h with ⟨rfl, hl, q⟩ | ⟨n, q⟩
    · cases q
    · obtain ⟨u, q1, q2⟩ := h1 j e q
      exact ⟨u, set_get_ne n q1, q2⟩
  · rcases getD_set h with ⟨rfl, hl, q⟩ | ⟨n, q⟩
    · cases q
    · obtain ⟨a, oe, C, q1, q2⟩ := R.exn j c fs q
      exact ⟨a, oe, C, set_get_ne n q1, q2⟩
  · exact set_get_ne (o p hp) (R.anch p hp)
/-- a fresh container comes into a slot -/
theorem Rel.setB {B : List Addr} (R : Rel X J F H s σ A) (o : Off J i) (r : Own X.K X.mg F H d v B) (hB : ∀ a ∈ B, F a = none ∧ ¬ A a) : Rel X J F H (s.set i (.b d)) (σ.set i (some v)) (fun a => A a ∨ a ∈ B) := by
  refine ⟨R.sub, fun j e h => ?_, ?_, fun a ha => ha.elim (R.free a) fun z => (hB a z).1, fun a ha => ha.elim (R.there a) (r.mut a), fun j c fs h => ?_, fun p hp => ?_, by rw [List.length_set, List.length_set]; exact R.len⟩
  · rcases getD_set h with ⟨rfl, hl, q⟩ | ⟨n, q⟩
    · cases q
    · obtain ⟨u, q1, q2⟩ := R.frz j e q
      exact ⟨u, set_get_ne n q1, q2⟩
  · obtain ⟨fp, h1, h2, h3⟩ := R.lay
    refine ⟨fset fp i B, fun j e h => ?_, fset_apart h2 fun j a _ hj z => (hB a z).2 (h3 j a hj), fun j a hj => ?_⟩
    · rcases getD_set h with ⟨rfl, hl, q⟩ | ⟨n, q⟩
      · cases q
        exact ⟨v, List.getElem?_set_self (Nat.lt_of_lt_of_le hl R.len), by rw [fset_same]; exact r⟩
      · obtain ⟨u, q1, q2⟩ := h1 j e q
        exact ⟨u, set_get_ne n q1, by rw [fset_ne n]; exact q2⟩
    · by_cases ej : j = i
      · rw [ej, fset_same] at hj; exact .inr hj
      · rw [fset_ne ej] at hj; exact .inl (h3 j a hj)
  · rcases getD_set h with ⟨rfl, hl, q⟩ | ⟨n, q⟩
    · cases q
    · obtain ⟨a, oe, C, q1, q2, q3, q4, q5⟩ := R.exn j c fs q
      refine ⟨a, oe, C, set_get_ne n q1, q2, q3, q4, q5.imp id ?_⟩
      rintro ⟨f, d', dx, w, e1, e2, e3, e4, e5⟩
      refine ⟨f, d', dx, w, e1, e2, e3, fun z => ?_, e5⟩
      rcases z with z | z
      · exact e4 z
      · have m := r.mut dx z
        rw [e3] at m; exact m
  · exact set_get_ne (o p hp) (R.anch p hp)

/-- a container of a slot is changed at p -/
theorem Rel.write {p : Addr} {o' : HO} {d' : D} (R : Rel X J F H s σ A) (hs : s[i]? = some (.b d)) (hv : σ[i]? = some (some v)) (hp : ∀ B, Own X.K X.mg F H d v B → p ∈ B) (new : ∀ B, Own X.K X.mg F H d v B → (∀ a ∈ B, F a = none) → Own X.K X.mg F (upd H p o') d' v B) :
    Rel X J F (upd H p o') (s.set i (.b d')) σ A ∧ Stp A F H A F (upd H p o') := by
  obtain ⟨fp, h1, h2, h3⟩ := R.lay
  obtain ⟨v', q1, q2⟩ := h1 i d hs
  rw [hv] at q1; cases q1
  have pB := hp _ q2
  have pA := h3 i p pB
  have pF := R.free p pA
  have pM := q2.mut p pB
  have hl : i < s.length := (List.getElem?_eq_some_iff.mp hs).1
  refine ⟨⟨fun a o h => ?_, fun j e h => ?_, ⟨fp, fun j e h => ?_, h2, h3⟩, R.free, fun a ha => ?_, fun j c fs h => ?_, R.anch, by rw [List.length_set]; exact R.len⟩, ⟨fun a o h n => ?_, Sub.refl _, fun a o h n => (by rw [h] at n; cases n), fun a h => .inl h⟩⟩
  · rw [upd_ne (ne_of_none h pF)]; exact R.sub a o h
  · rcases getD_set h with ⟨rfl, hl, q⟩ | ⟨n, q⟩
    · cases q
    · exact R.frz j e q
  · rcases getD_set h with ⟨rfl, hl, q⟩ | ⟨n, q⟩
    · cases q
      exact ⟨v, hv, new _ q2 fun a ha => R.free a (h3 _ a ha)⟩
    · obtain ⟨u, r1, r2⟩ := h1 j e q
      refine ⟨u, r1, r2.keep (Sub.refl _) fun a ha o h => ?_⟩
      have : a ≠ p := fun z => n (h2 j i p (z ▸ ha) pB)
      rw [upd_ne this]; exact h
  · by_cases e : a = p
    · rw [e]; exact (new _ q2 fun a ha => R.free a (h3 _ a ha)).mut p pB
    · rw [upd_ne e]; exact R.there a ha
  · rcases getD_set h with ⟨rfl, hl, q⟩ | ⟨n, q⟩
    · cases q
    · obtain ⟨a, oe, C, q1, q2, q3, q4, q5⟩ := R.exn j c fs q
      refine ⟨a, oe, C, q1, q2, q3, q4, q5.imp id ?_⟩
      rintro ⟨f, d', dx, w, e1, e2, e3, e4, e5⟩
      have : dx ≠ p := fun z => by rw [z] at e3; rw [e3] at pM; exact pM
      exact ⟨f, d', dx, w, e1, e2, by rw [upd_ne this]; exact e3, e4, e5⟩
  · have : a ≠ p := fun z => n (z ▸ pA)
    rw [upd_ne this]; exact h
/-- a container leaves its slot -/
theorem Rel.drop (R : Rel X J F H s σ A) (hs : s[i]? = some (.b d)) : ∃ (v : V) (B : List Addr), σ[i]? = some (some v) ∧ Own X.K X.mg F H d v B ∧ (∀ a ∈ B, F a = none ∧ A a) ∧ Rel X J F H (s.set i .no) σ (fun a => A a ∧ a ∉ B) := by
  obtain ⟨fp, h1, h2, h3⟩ := R.lay
  obtain ⟨v, q1, q2⟩ := h1 i d hs
  refine ⟨v, fp i, q1, q2, fun a ha => ⟨R.free a (h3 i a ha), h3 i a ha⟩, R.sub, fun j e h => ?_, ⟨fset fp i [], fun j e h => ?_, fset_apart h2 (fun j a _ _ => by simp), fun j a hj => ?_⟩, fun a ha => R.free a ha.1, fun a ha => R.there a ha.1, fun j c fs h => ?_, R.anch, by rw [List.length_set]; exact R.len⟩
  · rcases getD_set h with ⟨rfl, hl, q⟩ | ⟨n, q⟩
    · cases q
    · exact R.frz j e q
  · rcases getD_set h with ⟨rfl, hl, q⟩ | ⟨n, q⟩
    · cases q
    · rw [fset_ne n]; exact h1 j e q
  · by_cases e : j = i
    · rw [e, fset_same] at hj; simp at hj
    · rw [fset_ne e] at hj
      exact ⟨h3 j a hj, fun z => e (h2 j i a hj z)⟩
  · rcases getD_set h with ⟨rfl, hl, q⟩ | ⟨n, q⟩
    · cases q
    · obtain ⟨a, oe, C, q1, q2, q3, q4, q5⟩ := R.exn j c fs q
      refine ⟨a, oe, C, q1, q2, q3, q4, q5.imp id ?_⟩
      rintro ⟨f, d', dx, w, e1, e2, e3, e4, e5⟩
      exact ⟨f, d', dx, w, e1, e2, e3, fun z => e4 z.1, e5⟩
/-- something is forgotten -/
theorem Rel.lose (R : Rel X J F H s σ A) {s' : En} (hl : s'.length ≤ s.length) (h : ∀ (j : Nat) (x : Sl), s'[j]? = some x → x ≠ Sl.no → s[j]? = some x) : Rel X J F H s' σ A := by
  obtain ⟨fp, h1, h2, h3⟩ := R.lay
  exact ⟨R.sub, fun j e q => R.frz j e (h j _ q (by intro z; cases z)), ⟨fp, fun j e q => h1 j e (h j _ q (by intro z; cases z)), h2, h3⟩, R.free, R.there, fun j c fs q => R.exn j c fs (h j _ q (by intro z; cases z)), R.anch, Nat.le_trans hl R.len⟩
theorem Stp.less {A A' : Addr → Prop} {F H : Hp} (h : ∀ a, A' a → A a) : Stp A F H A' F H := ⟨fun _ _ h _ => h, Sub.refl _, fun a o h n => (by rw [h] at n; cases n), fun a z => .inl (h a z)⟩
/-- an untracked thing is tracked, of which nobody knows -/
theorem Rel.addH {p : Addr} {o : HO} (R : Rel X J F H s σ A) (hp : H p = none) : Rel X J F (upd H p o) s σ A ∧ Stp A F H A F (upd H p o) := by
  have sH : Sub H (upd H p o) := fun a u h => by rw [upd_ne (ne_of_none h hp)]; exact h
  refine ⟨⟨fun a u h => sH a u (R.sub a u h), R.frz, ?_, R.free, fun a ha => ?_, fun j c fs h => ?_, R.anch, R.len⟩, ⟨fun a u h _ => sH a u h, Sub.refl _, fun a u h n => (by rw [h] at n; cases n), fun a h => .inl h⟩⟩
  · obtain ⟨fp, h1, h2, h3⟩ := R.lay
    refine ⟨fp, fun j e h => ?_, h2, h3⟩
    obtain ⟨v, q1, q2⟩ := h1 j e h
    exact ⟨v, q1, q2.keep (Sub.refl _) fun a _ u h => sH a u h⟩
  · obtain ⟨u, hu⟩ := R.ex a ha
    have m := R.there a ha
    rw [hu] at m; rw [sH a u hu]; exact m
  · obtain ⟨a, oe, C, q1, q2, q3, q4, q5⟩ := R.exn j c fs h
    refine ⟨a, oe, C, q1, q2, q3, q4, q5.imp id ?_⟩
    rintro ⟨f, d', dx, w, e1, e2, e3, e4, e5⟩
    exact ⟨f, d', dx, w, e1, e2, sH _ _ e3, e4, e5⟩
/-- owned ones become frozen -/
theorem Rel.freeze {B : List Addr} (R : Rel X J F H s σ A) (hB : ∀ a ∈ B, F a = none ∧ ¬ A a) : Rel X J (fun a => if a ∈ B then H a else F a) H s σ A ∧ Sub F (fun a => if a ∈ B then H a else F a) := by
  have sF : Sub F (fun a => if a ∈ B then H a else F a) := fun a o h => by
    have : a ∉ B := fun z => by rw [(hB a z).1] at h; cases h
    show (if a ∈ B then H a else F a) = some o
    rw [if_neg this]; exact h
  refine ⟨⟨fun a o h => ?_, fun i d e => (R.frz i d e).imp fun v q => ⟨q.1, q.2.mono sF⟩, ?_, fun a ha => ?_, R.there, fun j c fs h => ?_, R.anch, R.len⟩, sF⟩
  · have h' : (if a ∈ B then H a else F a) = some o := h
    by_cases z : a ∈ B
    · rw [if_pos z] at h'; exact h'
    · rw [if_neg z] at h'; exact R.sub a o h'
  · obtain ⟨fp, h1, h2, h3⟩ := R.lay
    refine ⟨fp, fun j e h => ?_, h2, h3⟩
    obtain ⟨v, q1, q2⟩ := h1 j e h
    exact ⟨v, q1, q2.keep sF fun a _ u h => h⟩
  · have : a ∉ B := fun z => (hB a z).2 ha
    show (if a ∈ B then H a else F a) = none
    rw [if_neg this]; exact R.free a ha
  · obtain ⟨a, oe, C, q1, q2, q3, q4, q5⟩ := R.exn j c fs h
    refine ⟨a, oe, C, q1, q2, q3, q4, q5.imp id ?_⟩
    rintro ⟨f, d', dx, w, e1, e2, e3, e4, e5⟩
    exact ⟨f, d', dx, w, e1, e2, e3, e4, e5.mono sF⟩
end

/-! ### frozen -/
mutual
def frzB : D → D
  | .ins c fs => .ins c (frzL fs)
  | d => d
def frzL : List (Str × D) → List (Str × D)
  | [] => []
  | (x, .box d) :: r => (x, frzB d) :: frzL r
  | (x, d) :: r => (x, d) :: frzL r
end
theorem frzL_frz {K : PySem.W.Frag} {mg : Str → Option Value} {F : Hp} {x : Str} {d : D} {v : V} {r : List (Str × D)} (h : Rep K mg F d v) : frzL ((x, d) :: r) = (x, d) :: frzL r := by
  cases h <;> simp [frzL]
section
variable {K : PySem.W.Frag} {mg : Str → Option Value} {F F' H : Hp}
mutual
theorem Own.frzn (s : Sub F F') : ∀ {d : D} {v : V} {B : List Addr}, (∀ a ∈ B, F' a = H a) → Own K mg F H d v B → Rep K mg F' (frzB d) v
  | _, _, _, k, .lst h r => by
    rw [frzB]
    · exact .lst (.of ((k _ (by simp)).trans h)) (r.mono s)
    · intro c fs z; cases z
  | _, _, _, k, .dK h r => by
    rw [frzB]
    · exact .dK ((k _ (by simp)).trans h) (r.mono s)
    · intro c fs z; cases z
  | _, _, _, k, .dT h r => by
    rw [frzB]
    · exact .dT ((k _ (by simp)).trans h) (r.mono s)
    · intro c fs z; cases z
  | _, _, _, k, .ins h g r n => by
    rw [frzB]
    exact .ins ((k _ (by simp)).trans h) g (OwnF.frzn s (fun a ha => k a (List.mem_cons_of_mem _ ha)) r)
theorem OwnF.frzn (s : Sub F F') : ∀ {d : List (Str × D)} {v : List (Str × V)} {B : List Addr}, (∀ a ∈ B, F' a = H a) → OwnF K mg F H d v B → RepF K mg F' (frzL d) v
  | _, _, _, _, .nil => by rw [frzL]; exact .nil
  | _, _, _, k, .frz h r => by rw [frzL_frz h]; exact .cons (h.mono s) (OwnF.frzn s k r)
  | _, _, _, k, .box h r n => by rw [frzL]; exact .cons (Own.frzn s (fun a ha => k a (List.mem_append_left _ ha)) h) (OwnF.frzn s (fun a ha => k a (List.mem_append_right _ ha)) r)
end
end

/-! ### fresh containers -/
section
variable (X : Km) (J : Anc) (W : WX)
def FOk (σ : St) (A0 : Addr → Prop) (F0 H0 : Hp) (Q : VK) : Res D → Prop
  | .ok d s => ∀ (v : V) (F H : Hp) (A : Addr → Prop) (B : List Addr), Stp A0 F0 H0 A F H → Rel X J F H s σ A → Own X.K X.mg F H d v B → (∀ a ∈ B, F a = none ∧ ¬ A a ∧ (A0 a ∨ H0 a = none)) → Q v H
  | .ex c fs s => ∀ (cls : Value) (dx : Option Addr) (F H : Hp) (A : Addr → Prop), Stp A0 F0 H0 A F H → Rel X J F H s σ A → Exc X A F H c fs cls dx → W cls dx σ H
  | .bad => False
def tF (m : ME) : TE := fun σ H Q => ∃ (F : Hp) (A : Addr → Prop) (s : En), Rel X J F H s σ A ∧ FOk X J W σ A F H Q (m s)
end
section
variable {X : Cx} {J : Anc} {W : WX} {σ : St} {A A1 : Addr → Prop} {F H F1 H1 : Hp} {s s1 : En} {Q : VK}
theorem Stp.fresh (S : Stp A F H A1 F1 H1) {a : Addr} (q3 : A1 a ∨ H1 a = none) : A a ∨ H a = none := by
  rcases q3 with q3 | q3
  · exact S.own a q3
  · by_cases n : A a
    · exact .inl n
    · cases e : H a with
      | none => exact .inr rfl
      | some o => rw [S.keep a o e n] at q3; cases q3
theorem FOk.shift (S : Stp A F H A1 F1 H1) {r : Res D} (h : FOk (km X) J W σ A F H Q r) : FOk (km X) J W σ A1 F1 H1 Q r := by
  cases r with
  | ok a s => exact fun v F2 H2 A2 B S2 R o hb => h v F2 H2 A2 B (S.trans S2) R o fun a ha => ⟨(hb a ha).1, (hb a ha).2.1, S.fresh (hb a ha).2.2⟩
  | ex c fs s => exact fun cls dx F2 H2 A2 S2 => h cls dx F2 H2 A2 (S.trans S2)
  | bad => exact h
theorem bindF {α β : Type} {P : Hp → α → β → Prop} {m : En → Res α} {k : α → En → Res D} {T : β → Hp → Prop} (R : Rel (km X) J F H s σ A) (h : FOk (km X) J W σ A F H Q ((m s).bind k))
    (hk : ∀ (a : α) (s1 : En) (b : β) (F1 H1 : Hp) (A1 : Addr → Prop), Stp A F H A1 F1 H1 → Rel (km X) J F1 H1 s1 σ A1 → P F1 a b → FOk (km X) J W σ A1 F1 H1 Q (k a s1) → T b H1) : tG (km X) J W P m σ H T := by
  refine ⟨F, A, s, R, ?_⟩
  cases e : m s with
  | ok a s1 =>
    rw [e] at h
    exact fun b F1 H1 A1 S R1 p => hk a s1 b F1 H1 A1 S R1 p (FOk.shift S h)
  | ex c fs s1 =>
    rw [e] at h
    exact h
  | bad =>
    rw [e] at h
    exact h
def Cont (K : PySem.W.Frag) (mg : Str → Option Value) (F : Hp) (o : HO) : D → Prop
  | .lst ds => ∃ vs, o = .lst vs ∧ Reps K mg F ds vs
  | .dct kvs => ∃ xs, o = .dK xs ∧ RepK K mg F kvs xs
  | .dtt kvs => ∃ xs, o = .dT xs ∧ RepT K mg F kvs xs
  | _ => False
theorem Cont.own {K : PySem.W.Frag} {mg : Str → Option Value} {o : HO} {d : D} {p : Addr} (c : Cont K mg F o d) (h : H p = some o) : Own K mg F H d (.ref p) [p] := by
  unfold Cont at c
  split at c
  · obtain ⟨vs, rfl, r⟩ := c; exact .lst h r
  · obtain ⟨xs, rfl, r⟩ := c; exact .dK h r
  · obtain ⟨xs, rfl, r⟩ := c; exact .dT h r
  · exact c.elim
theorem Cont.rep {K : PySem.W.Frag} {mg : Str → Option Value} {o : HO} {d : D} {p : Addr} (c : Cont K mg F o d) (hp : F p = none) : Rep K mg (upd F p o) d (.ref p) := by
  have s : Sub F (upd F p o) := fun a u h => by rw [upd_ne (ne_of_none h hp)]; exact h
  unfold Cont at c
  split at c
  · obtain ⟨vs, rfl, r⟩ := c; exact .lst (.of upd_same) (r.mono s)
  · obtain ⟨xs, rfl, r⟩ := c; exact .dK upd_same (r.mono s)
  · obtain ⟨xs, rfl, r⟩ := c; exact .dT upd_same (r.mono s)
  · exact c.elim
/-- a built-in that makes a new container -/
def FnF (K : PySem.W.Frag) (mg : Str → Option Value) (r : List V → Hp → VK → Prop) (f : List D → Option D) : Prop := ∀ (F H : Hp) (vs : List V) (ds : List D) (d : D) (Q : VK), Sub F H → Vws K mg F H ds vs → f ds = some d →
  (∀ p o F1 H1, Grow F H F1 H1 → H1 p = none → Cont K mg F1 o d → Q (.ref p) (upd H1 p o)) → r vs H Q
def OpF (K : PySem.W.Frag) (mg : Str → Option Value) (r : R2) (f : D → D → Option D) : Prop := ∀ (F H : Hp) (x y : V) (d1 d2 d : D) (Q : VK), Sub F H → Vw K mg F H d1 x → Vw K mg F H d2 y → f d1 d2 = some d →
  (∀ p o F1 H1, Grow F H F1 H1 → H1 p = none → Cont K mg F1 o d → Q (.ref p) (upd H1 p o)) → r x y H Q
theorem Grow.fp {F1 H1 : Hp} (g : Grow F H F1 H1) {p : Addr} (hp : H1 p = none) : F1 p = none := by
  cases e : F1 p with
  | none => rfl
  | some u => rw [g.s p u e] at hp; cases hp
theorem FnF.toS {K : PySem.W.Frag} {mg : Str → Option Value} {r : List V → Hp → VK → Prop} {f : List D → Option D} (h : FnF K mg r f) : FnS K mg r f := fun F H vs ds d Q s v e k =>
  h F H vs ds d Q s v e fun p o F1 H1 g hp c => k _ _ _ (g.trans (Grow.one g.s hp)) (c.rep (g.fp hp))
theorem OpF.toS {K : PySem.W.Frag} {mg : Str → Option Value} {r : R2} {f : D → D → Option D} (h : OpF K mg r f) : OpS K mg r f := fun F H x y d1 d2 d Q s v1 v2 e k =>
  h F H x y d1 d2 d Q s v1 v2 e fun p o F1 H1 g hp c => k _ _ _ (g.trans (Grow.one g.s hp)) (c.rep (g.fp hp))
theorem FOk.ret {o : Option D} (R : Rel (km X) J F H s σ A) (q : FOk (km X) J W σ A F H Q (ret o s)) {T : Prop} (h : ∀ d, o = some d → (∀ p o F1 H1, Grow F H F1 H1 → H1 p = none → Cont X.K X.mg F1 o d → Q (.ref p) (upd H1 p o)) → T) : T := by
  cases o with
  | none => exact q.elim
  | some d =>
    refine h d rfl fun p o F1 H1 g hp c => ?_
    have R1 := R.grow g
    obtain ⟨R2, S2⟩ := R1.addH (o := o) hp
    refine q (.ref p) F1 (upd H1 p o) A [p] (g.stp.trans S2) R2 (c.own upd_same) fun a ha => ?_
    rw [List.mem_singleton.mp ha]
    refine ⟨g.fp hp, fun z => ?_, .inr ?_⟩
    · obtain ⟨u, hu⟩ := R1.ex p z
      rw [hp] at hu; cases hu
    · cases e : H p with
      | none => rfl
      | some u => rw [g.h p u e] at hp; cases hp
theorem fnF_run {oa : MA} {r : List V → Hp → VK → Prop} {f : List D → Option D} (hs : FnF X.K X.mg r f) : tF (km X) J W (mFn f oa) σ H Q → tCB r (tAr (km X) J W oa) σ H Q := fun ⟨F, A, s, R, q⟩ =>
  bindF (P := AR (km X) σ) R q fun a s1 x F1 H1 A1 S1 R1 p1 q1 => by
    split at q1
    · rename_i ds e1
      exact FOk.ret R1 q1 fun d e k => hs F1 H1 x ds d Q R1.sub (R1.fills p1 e1) e k
    · exact q1.elim
theorem op2F_run {oa ob : MO} {r : R2} {f : D → D → Option D} (hs : OpF X.K X.mg r f) : tF (km X) J W (mOp2 f oa ob) σ H Q → tOp r (tO (km X) J W oa) (tO (km X) J W ob) σ H Q := fun ⟨F, A, s, R, q⟩ =>
  bindF (P := A1 (km X) σ) R q fun a s1 x F1 H1 A1 S1 R1 p1 q1 => bindF (P := Mir.A1 (km X) σ) R1 q1 fun b s2 y F2 H2 A2 S2 R2 p2 q2 => by
    have p1' : Mir.A1 (km X) σ F2 a x := by
      cases p1 with
      | d p => exact .d (p.mono S2.mono)
      | own h => exact .own h
    split at q2
    · rename_i d1 d2 e1 e2
      exact FOk.ret R2 q2 fun d e k => hs F2 H2 x y d1 d2 d Q R2.sub (R2.fill p1' e1) (R2.fill p2 e2) e k
    · exact q2.elim
theorem gf_bin {a b : Expr} {op : Operator} {pos : Pos} {oa ob : MO} {r : R2} {f : D → D → Option D} (ho : OpR X (binaryOp op) r) (hs : OpF X.K X.mg r f) (ha : PE X a (tO (km X) J W oa)) (hb : PE X b (tO (km X) J W ob)) :
    PE X (.BinOp a op b pos) (tF (km X) J W (mOp2 f oa ob)) := peImp (pe_op ho ha hb) fun _ _ _ q => op2F_run hs q
theorem gf_callB {x : Str} {p pos : Pos} {e : Expr} {es : List Expr} {t : MA} {id : String} {r : List V → Hp → VK → Prop} {f : List D → Option D} (hc : CallR X (.builtin id) r) (hs : FnF X.K X.mg r f) (hg : Gl X x) (hm : X.mg x = none) (hv : bootBuiltins x = some (.builtin id)) (ha : PA X (e :: es) (tAr (km X) J W t)) (hn : x ≠ "__name__" := by decide) (hdb : (x == ("__debug__" : Str)) = false := by decide)
    (he : starEach (e :: es) X.env = (false, eval e X.env) :: starEach es X.env := by rfl) (hpl : (backTo pos (starEach es X.env)).any (·.1) = false := by rfl) : PE X (.Call (.Name x p) (e :: es) [] pos) (tF (km X) J W (mFn f t)) :=
  peImp (pe_callB hc hg hm hv ha hn hdb he hpl) fun _ _ _ q => fnF_run hs q
theorem gf_callTy {x : Str} {p pos : Pos} {e : Expr} {es : List Expr} {t : MA} {T : String} {r : List V → Hp → VK → Prop} {f : List D → Option D} (hc : CallR X (.type T) r) (hs : FnF X.K X.mg r f) (hg : Gl X x) (hm : X.mg x = none) (hv : bootBuiltins x = some (.type T)) (ha : PA X (e :: es) (tAr (km X) J W t)) (hn : x ≠ "__name__" := by decide) (hdb : (x == ("__debug__" : Str)) = false := by decide)
    (he : starEach (e :: es) X.env = (false, eval e X.env) :: starEach es X.env := by rfl) (hpl : (backTo pos (starEach es X.env)).any (·.1) = false := by rfl) : PE X (.Call (.Name x p) (e :: es) [] pos) (tF (km X) J W (mFn f t)) :=
  peImp (pe_callTy hc hg hm hv ha hn hdb he hpl) fun _ _ _ q => fnF_run hs q
/-- a written list, fresh -/
theorem gf_lst {es : List Expr} {pos : Pos} {m : MA} (h : PA X es (tAr (km X) J W m)) : PE X (.List es pos) (tF (km X) J W (mLst m)) := peImp (pe_lst h) fun σ H Q ⟨F, A, s, R, q⟩ =>
  bindF (P := AR (km X) σ) R q fun as s1 vs F1 H1 A1 S1 R1 p1 q1 => by
    split at q1
    · rename_i ds e
      have r := frzs_rep p1 e
      split at q1
      · rename_i hz
        refine ⟨by rw [← r.length]; exact hz, fun p hp => ?_⟩
        exact FOk.ret (o := some (.lst ds)) R1 q1 fun d e k => by cases e; exact k p _ F1 H1 (Grow.refl R1.sub) hp ⟨vs, rfl, r⟩
      · exact q1.elim
    · exact q1.elim
/-- {} -/
def mNewD : ME := fun s => .ok (.dct []) s
def mNewT : ME := fun s => .ok (.dtt []) s
theorem gf_dnewK {pos : Pos} : PE X (.Dict [] [] pos) (tF (km X) J W mNewD) := peImp pe_dnewK fun σ H Q ⟨F, A, s, R, q⟩ p hp =>
  FOk.ret (o := some (.dct [])) R q fun d e k => by cases e; exact k p _ F H (Grow.refl R.sub) hp ⟨[], rfl, .nil⟩
theorem gf_dnewT {pos : Pos} : PE X (.Dict [] [] pos) (tF (km X) J W mNewT) := peImp pe_dnewT fun σ H Q ⟨F, A, s, R, q⟩ p hp =>
  FOk.ret (o := some (.dtt [])) R q fun d e k => by cases e; exact k p _ F H (Grow.refl R.sub) hp ⟨[], rfl, .nil⟩
/-- .. frozen at once -/
def mFrz (m : ME) : ME := fun s => (m s).bind fun d s1 => .ok (frzB d) s1
theorem frz_run {m : ME} : tE (km X) J W (mFrz m) σ H Q → tF (km X) J W m σ H Q := fun ⟨F, A, s, R, q⟩ => by
  refine ⟨F, A, s, R, ?_⟩
  unfold mFrz at q
  cases e : m s with
  | ok d s1 =>
    rw [e] at q
    intro v F1 H1 A1 B S R1 o hb
    obtain ⟨R2, sF⟩ := R1.freeze fun a ha => ⟨(hb a ha).1, (hb a ha).2.1⟩
    refine q v _ H1 A1 ⟨S.keep, S.mono.trans sF, fun a u h n => ?_, S.own⟩ R2 (o.frzn sF fun a ha => if_pos ha)
    by_cases z : a ∈ B
    · exact (hb a z).2.2.symm
    · rw [if_neg z] at h; exact S.new a u h n
  | ex c fs s1 => rw [e] at q; exact q
  | bad => rw [e] at q; exact q
theorem ge_frz {e : Expr} {m : ME} (h : PE X e (tF (km X) J W m)) : PE X e (tE (km X) J W (mFrz m)) := peImp h fun _ _ _ q => frz_run q
end
end Mir
namespace Mir
open PySem L2

/-! ### statements -/
def mNext : MS := fun s => .nx s
def mSeq (a b : MS) : MS := fun s => match a s with
  | .nx s1 => b s1
  | o => o
def mAsg (i : Nat) (m : ME) : MS := fun s => (m s).out fun d s1 => .nx (s1.set i (.d d))
def mAsgB (i : Nat) (m : ME) : MS := fun s => (m s).out fun d s1 => .nx (s1.set i (.b d))
def mExpr (m : ME) : MS := fun s => (m s).out fun _ s1 => .nx s1
def mRet (m : ME) : MS := fun s => (m s).out fun d s1 => .rt d s1
def mRetF (m : ME) : MS := fun s => (m s).out fun d s1 => .ro d s1
def mRetN : MS := fun s => .rt .non s
def mRetOwn (i : Nat) : MS := fun s => match s[i]? with
  | some (.b d) => .ro d (s.set i .no)
  | _ => .bad
def mIf (c : MT) (a b : MS) : MS := fun s => (c s).out fun c s1 => match c with
  | true => a s1
  | false => b s1
def mBreak : MS := fun s => .bk s
def mCont : MS := fun s => .ct s
/-- a slot's own container is changed no more -/
def frzS (i : Nat) (s : En) : En := match s[i]? with
  | some (.b d) => s.set i (.d (frzB d))
  | _ => s
def mThen (i : Nat) (m : MS) : MS := fun s => m (frzS i s)
section
variable {X : Cx} {J : Anc} {W : WX} {σ : St} {A A1 : Addr → Prop} {F H F1 H1 : Hp} {s s1 : En}
theorem gss_nil : PSs X [] (tS (km X) J W mNext) := pssImp pss_nil fun D σ H ⟨F, A, s, R, q⟩ => q σ F H A Stp.refl R
theorem SOk.nx {D : Ends} {N : St → Hp → Prop} {o : Out} {k : En → Out} (h : SOk (km X) J W D A F H (match o with | .nx s1 => k s1 | o => o))
    (hN : ∀ s1 σ F1 H1 A1, o = .nx s1 → Stp A F H A1 F1 H1 → Rel (km X) J F1 H1 s1 σ A1 → SOk (km X) J W D A1 F1 H1 (k s1) → N σ H1) : SOk (km X) J W { D with nx := N } A F H o := by
  cases o with
  | nx s1 => exact fun σ F1 H1 A1 S R => hN s1 σ F1 H1 A1 rfl S R (SOk.shift S h)
  | rt d s1 => exact h
  | ro d s1 => exact h
  | bk s1 => exact h
  | ct s1 => exact h
  | ex c fs s1 => exact h
  | bad => exact h
theorem gss_cons {st : Stmt} {rest : List Stmt} {a b : MS} (ha : PS X st (tS (km X) J W a)) (hb : PSs X rest (tS (km X) J W b)) : PSs X (st :: rest) (tS (km X) J W (mSeq a b)) := pssImp (pss_cons ha hb) fun D σ H ⟨F, A, s, R, q⟩ =>
  ⟨F, A, s, R, SOk.nx (k := b) q fun s1 σ F1 H1 A1 _ S R1 h => ⟨F1, A1, s1, R1, h⟩⟩
theorem gss_one {st : Stmt} {a : MS} (ha : PS X st (tS (km X) J W a)) : PSs X [st] (tS (km X) J W a) := pss_one ha
theorem gs_pass {pos : Pos} : PS X (.Pass pos) (tS (km X) J W mNext) := psImp ps_pass fun D σ H ⟨F, A, s, R, q⟩ => q σ F H A Stp.refl R
theorem gs_break {pos : Pos} : PS X (.Break pos) (tS (km X) J W mBreak) := psImp ps_break fun D σ H ⟨F, A, s, R, q⟩ => q σ F H A Stp.refl R
theorem gs_continue {pos : Pos} : PS X (.Continue pos) (tS (km X) J W mCont) := psImp ps_continue fun D σ H ⟨F, A, s, R, q⟩ => q σ F H A Stp.refl R
theorem gs_expr {e : Expr} {m : ME} {pos : Pos} (he : PE X e (tE (km X) J W m)) (hs : swapsWith e none pos.line X.env = pure false := by rfl) : PS X (.Expr e pos) (tS (km X) J W (mExpr m)) := psImp (ps_expr he hs) fun D σ H ⟨F, A, s, R, q⟩ =>
  bindS (P := PRep (km X)) R q fun d s1 v F1 H1 A1 S R1 p q1 => q1 σ F1 H1 A1 Stp.refl R1
theorem gs_ret {e : Expr} {m : ME} {pos : Pos} (he : PE X e (tE (km X) J W m)) : PS X (.Return (some e) pos) (tS (km X) J W (mRet m)) := psImp (ps_ret he) fun D σ H ⟨F, A, s, R, q⟩ =>
  bindS (P := PRep (km X)) R q fun d s1 v F1 H1 A1 S R1 p q1 => q1 v σ F1 H1 A1 Stp.refl R1 p
theorem gs_retN {pos : Pos} : PS X (.Return none pos) (tS (km X) J W mRetN) := psImp ps_retN fun D σ H ⟨F, A, s, R, q⟩ => q .non σ F H A Stp.refl R .non
theorem bindFS {N : Ends} {m : ME} {k : D → En → Out} {T : VK} (R : Rel (km X) J F H s σ A) (h : SOk (km X) J W N A F H ((m s).out k))
    (hk : ∀ (a : D) (s1 : En) (v : V) (F1 H1 : Hp) (A1 : Addr → Prop) (B : List Addr), Stp A F H A1 F1 H1 → Rel (km X) J F1 H1 s1 σ A1 → Own X.K X.mg F1 H1 a v B → (∀ a ∈ B, F1 a = none ∧ ¬ A1 a ∧ (A a ∨ H a = none)) → SOk (km X) J W N A F H (k a s1) → T v H1) : FOk (km X) J W σ A F H T (m s) := by
  cases e : m s with
  | ok a s1 =>
    rw [e] at h
    exact fun v F1 H1 A1 B S R1 o hb => hk a s1 v F1 H1 A1 B S R1 o hb h
  | ex c fs s1 =>
    rw [e] at h
    exact fun cls dx F1 H1 A1 S R1 x => h cls dx σ F1 H1 A1 S R1 x
  | bad =>
    rw [e] at h
    exact h
theorem Stp.plus {A' : Addr → Prop} {B : List Addr} {F' H' : Hp} (S : Stp A F H A' F' H') (hb : ∀ a ∈ B, A a ∨ H a = none) : Stp A F H (fun a => A' a ∨ a ∈ B) F' H' :=
  ⟨S.keep, S.mono, S.new, fun a h => h.elim (S.own a) (hb a)⟩
theorem gs_retF {e : Expr} {m : ME} {pos : Pos} (he : PE X e (tF (km X) J W m)) : PS X (.Return (some e) pos) (tS (km X) J W (mRetF m)) := psImp (ps_ret he) fun D σ H ⟨F, A, s, R, q⟩ =>
  ⟨F, A, s, R, bindFS R q fun d s1 v F1 H1 A1 B S R1 o hb q1 => q1 v σ F1 H1 A1 B S R1 o hb⟩
theorem gs_retOwn {x : Str} {i : Nat} {px pos : Pos} (he : PE X (.Name x px) (tVar i)) : PS X (.Return (some (.Name x px)) pos) (tS (km X) J W (mRetOwn i)) := psImp (ps_ret he) fun D σ H ⟨F, A, s, R, q⟩ => by
  unfold mRetOwn at q
  split at q
  · rename_i d hd
    obtain ⟨v, B, h1, h2, h3, h4⟩ := R.drop hd
    exact ⟨v, h1, q v σ F H _ B (Stp.less fun a h => h.1) h4 h2 fun a ha => ⟨(h3 a ha).1, fun z => z.2 ha, .inl (h3 a ha).2⟩⟩
  · exact q.elim
theorem gs_if {c : Expr} {a b : List Stmt} {tc : MT} {ta tb : MS} {pos : Pos} (hc : PT X c (tT (km X) J W tc)) (ha : PSs X a (tS (km X) J W ta)) (hb : PSs X b (tS (km X) J W tb)) : PS X (.If c a b pos) (tS (km X) J W (mIf tc ta tb)) := psImp (ps_if hc ha hb) fun D σ H ⟨F, A, s, R, q⟩ =>
  bindS (P := PEq Bool) R q fun c s1 x F1 H1 A1 S R1 p q1 => by
    cases p
    cases c with
    | true => rw [if_pos rfl]; exact ⟨F1, A1, s1, R1, q1⟩
    | false => rw [if_neg (by decide)]; exact ⟨F1, A1, s1, R1, q1⟩
/-- name = value -/
theorem gs_set {i : Nat} {x : Str} {e : Expr} {m : ME} {pos pos' : Pos} (o : Off J i) (hN : X.N.Nodup) (hi : X.N[i]? = some x) (hx : Loc X.env.scope x) (he : PE X e (tE (km X) J W m)) (hs : swapsWith e (some (.Name x pos')) pos.line X.env = pure false := by rfl) (hf : X.fn x = true ∨ X.env.scope.names.lookup x = some .local := by first | exact .inl rfl | exact .inr rfl | assumption) :
    PS X (.Assign [.Name x pos'] e pos) (tS (km X) J W (mAsg i m)) := psImp (ps_set hN hi hx he hs hf) fun D σ H ⟨F, A, s, R, q⟩ =>
  bindS (P := PRep (km X)) R q fun d s1 v F1 H1 A1 S R1 p q1 => q1 _ F1 H1 A1 Stp.refl (R1.setD o p)
theorem gs_setB {i : Nat} {x : Str} {e : Expr} {m : ME} {pos pos' : Pos} (o : Off J i) (hN : X.N.Nodup) (hi : X.N[i]? = some x) (hx : Loc X.env.scope x) (he : PE X e (tF (km X) J W m)) (hs : swapsWith e (some (.Name x pos')) pos.line X.env = pure false := by rfl) (hf : X.fn x = true ∨ X.env.scope.names.lookup x = some .local := by first | exact .inl rfl | exact .inr rfl | assumption) :
    PS X (.Assign [.Name x pos'] e pos) (tS (km X) J W (mAsgB i m)) := psImp (ps_set hN hi hx he hs hf) fun D σ H ⟨F, A, s, R, q⟩ =>
  ⟨F, A, s, R, bindFS R q fun d s1 v F1 H1 A1 B S R1 ow hb q1 => q1 _ F1 H1 _ (S.plus fun a ha => (hb a ha).2.2) (R1.setB o ow fun a ha => ⟨(hb a ha).1, (hb a ha).2.1⟩)⟩
/-- a slot is frozen (nothing is done in the program) -/
theorem Rel.frzS (R : Rel (km X) J F H s σ A) (i : Nat) : ∃ F' A', Rel (km X) J F' H (Mir.frzS i s) σ A' ∧ Stp A F H A' F' H := by
  unfold Mir.frzS
  split
  · rename_i d hd
    obtain ⟨v, B, h1, h2, h3, h4⟩ := R.drop hd
    have hn : ∀ a ∈ B, F a = none ∧ ¬ (A a ∧ a ∉ B) := fun a ha => ⟨(h3 a ha).1, fun z => z.2 ha⟩
    obtain ⟨R2, sF⟩ := h4.freeze hn
    have r := h2.frzn sF fun a ha => if_pos ha
    refine ⟨_, _, ?_, ⟨fun a o h _ => h, sF, fun a o h n => ?_, fun a h => .inl (show A a ∧ a ∉ B from h).1⟩⟩
    · refine ⟨R2.sub, fun j e h => ?_, ?_, R2.free, R2.there, fun j c fs h => ?_, R2.anch, by rw [List.length_set]; exact R.len⟩
      · rcases getD_set h with ⟨rfl, hl, q⟩ | ⟨n, q⟩
        · cases q; exact ⟨v, h1, r⟩
        · exact R2.frz j e (by rw [List.getElem?_set_ne (Ne.symm n)]; exact q)
      · obtain ⟨fp, g1, g2, g3⟩ := R2.lay
        refine ⟨fp, fun j e h => ?_, g2, g3⟩
        rcases getD_set h with ⟨rfl, hl, q⟩ | ⟨n, q⟩
        · cases q
        · exact g1 j e (by rw [List.getElem?_set_ne (Ne.symm n)]; exact q)
      · rcases getD_set h with ⟨rfl, hl, q⟩ | ⟨n, q⟩
        · cases q
        · exact R2.exn j c fs (by rw [List.getElem?_set_ne (Ne.symm n)]; exact q)
    · by_cases z : a ∈ B
      · exact .inr (h3 a z).2
      · have h' : (if a ∈ B then H a else F a) = some o := h
        rw [if_neg z, n] at h'; cases h'
  · exact ⟨F, A, R, Stp.refl⟩
theorem gss_frz {st : List Stmt} {m : MS} {i : Nat} (h : PSs X st (tS (km X) J W m)) : PSs X st (tS (km X) J W (mThen i m)) := pssImp h fun D σ H ⟨F, A, s, R, q⟩ => by
  obtain ⟨F', A', R', S⟩ := R.frzS i
  exact ⟨F', A', _, R', SOk.shift S q⟩

/-! ### targets -/
def tGt (X : Km) (J : Anc) (sl : List Nat) (g : D → En → Option En) : TG := fun v σ H Q => ∃ (F : Hp) (A : Addr → Prop) (s : En) (d : D) (s' : En), Rel X J F H s σ A ∧ Rep X.K X.mg F d v ∧ g d s = some s' ∧ ∀ σ', Rel X J F H s' σ' A → (∀ j, j ∉ sl → σ'[j]? = σ[j]?) → σ'.length = σ.length → Q σ' H
def tGts (X : Km) (J : Anc) (sl : List Nat) (g : List D → En → Option En) : TGs := fun vs σ H Q => ∃ (F : Hp) (A : Addr → Prop) (s : En) (ds : List D) (s' : En), Rel X J F H s σ A ∧ Reps X.K X.mg F ds vs ∧ g ds s = some s' ∧ ∀ σ', Rel X J F H s' σ' A → (∀ j, j ∉ sl → σ'[j]? = σ[j]?) → σ'.length = σ.length → Q σ' H
theorem pgImp {e : Expr} {t t' : TG} (h : PG X e t) (m : ∀ v σ H Q, t' v σ H Q → t v σ H Q) : PG X e t' := ⟨fun pins s σ H v u Q I r q => h.run pins s σ H v u Q I r (m v σ H Q q)⟩
theorem pgsImp {e : List Expr} {t t' : TGs} (h : PGs X e t) (m : ∀ v σ H Q, t' v σ H Q → t v σ H Q) : PGs X e t' := ⟨fun pins s σ H v u Q I r q => h.run pins s σ H v u Q I r (m v σ H Q q)⟩
def gSet (i : Nat) : D → En → Option En := fun d s => some (s.set i (.d d))
def gOne (g : D → En → Option En) (r : List D → En → Option En) : List D → En → Option En := fun ds s => match ds with
  | d :: ds => match g d s with
    | some s1 => r ds s1
    | none => none
  | [] => none
def gNone : List D → En → Option En := fun ds s => match ds with
  | [] => some s
  | _ => none
def gUn (g : List D → En → Option En) : D → En → Option En := fun d s => match d with
  | .tup ds => g ds s
  | _ => none
theorem gg_name {i : Nat} {x : Str} {pos : Pos} (o : Off J i) (hN : X.N.Nodup) (hi : X.N[i]? = some x) (hx : Loc X.env.scope x) (hf : X.fn x = true ∨ X.env.scope.names.lookup x = some .local := by first | exact .inl rfl | exact .inr rfl | assumption) : PG X (.Name x pos) (tGt (km X) J [i] (gSet i)) :=
  pgImp (pg_name hN hi hx hf) fun v σ H Q ⟨F, A, s, d, s', R, r, e, q⟩ => by
    cases e
    exact q _ (R.setD o r) (fun j hj => List.getElem?_set_ne fun z => hj (by simp [z])) (by simp)
theorem ggs_nil : PGs X [] (tGts (km X) J [] gNone) := pgsImp pgs_nil fun vs σ H Q ⟨F, A, s, ds, s', R, r, e, q⟩ => by
  cases r with
  | nil => cases e; exact ⟨rfl, q _ R (fun _ _ => rfl) rfl⟩
  | cons _ _ => cases e
theorem ggs_cons {e : Expr} {es : List Expr} {g : D → En → Option En} {r : List D → En → Option En} {sl sl' : List Nat} (h1 : PG X e (tGt (km X) J sl g)) (h2 : PGs X es (tGts (km X) J sl' r))
    (hs : (assignEach (e :: es) X.env).map (·.2) = assign e X.env :: (assignEach es X.env).map (·.2) := by rfl) : PGs X (e :: es) (tGts (km X) J (sl ++ sl') (gOne g r)) := pgsImp (pgs_cons h1 h2 hs) fun vs σ H Q ⟨F, A, s, ds, s', R, rr, e, q⟩ => by
  cases rr with
  | nil => cases e
  | cons r1 rr =>
    unfold gOne at e
    dsimp only at e
    split at e
    · rename_i s1 hs1
      exact ⟨_, _, rfl, F, A, s, _, s1, R, r1, hs1, fun σ' R' k1 l1 => ⟨F, A, s1, _, s', R', rr, e, fun σ'' R'' k2 l2 => q σ'' R'' (fun j hj => (k2 j fun z => hj (List.mem_append_right _ z)).trans (k1 j fun z => hj (List.mem_append_left _ z))) (l2.trans l1)⟩⟩
    · cases e
theorem gg_tup {es : List Expr} {k n : Nat} {g : List D → En → Option En} {sl : List Nat} {pos : Pos} (hc : X.calm = true) (h : PGs X es (tGts (km X) J sl g)) (hl : ∀ ds s s', g ds s = some s' → ds.length = n)
    (hn : (assignEach es X.env).length = n := by rfl) (hst : (assignEach es X.env).findIdx? (·.1) = none := by rfl) : PG X (.Tuple es k pos) (tGt (km X) J sl (gUn g)) := pgImp (pg_tup hc h hn hst) fun v σ H Q ⟨F, A, s, d, s', R, r, e, q⟩ => by
  unfold gUn at e
  split at e
  · cases r with
    | tup h1 h2 => exact ⟨_, _, rfl, R.sub.sqT h1, by rw [← h2.length]; exact hl _ _ _ e, F, A, s, _, s', R, h2, e, q⟩
  · cases e
def mAsgG (g : D → En → Option En) (m : ME) : MS := fun s => (m s).out fun d s1 => match g d s1 with
  | some s2 => .nx s2
  | none => .bad
/-- target = value -/
theorem gs_asg {tg e : Expr} {m : ME} {g : D → En → Option En} {sl : List Nat} {pos : Pos} (he : PE X e (tE (km X) J W m)) (hg : PG X tg (tGt (km X) J sl g)) (hs : swapsWithSole [tg] e pos.line X.env = pure false := by rfl) (hw : swappedStores [tg] e X.env = pure none := by rfl)
    (h1 : (assignEach [tg] X.env).map (·.2) = [assign tg X.env] := by rfl) : PS X (.Assign [tg] e pos) (tS (km X) J W (mAsgG g m)) := psImp (ps_asg he hg hs hw h1) fun D σ H ⟨F, A, s, R, q⟩ =>
  bindS (P := PRep (km X)) R q fun d s1 v F1 H1 A1 S R1 p q1 => by
    split at q1
    · rename_i s2 e2
      exact ⟨F1, A1, s1, d, s2, R1, p, e2, fun σ' R' _ _ => q1 σ' F1 H1 A1 Stp.refl R'⟩
    · exact q1.elim

/-! ### loops -/
/-- a thing that is walked: its items -/
structure Yields (X : Km) (j : It) (ds : List D) (F : Hp) : Prop where
  w : ∃ (G : Hp → Prop) (Y : Nat → Hp → V → Hp → Prop), Walk j ds.length G Y ∧ (∀ F' H', Sub F F' → Sub F' H' → G H') ∧
    ∀ i H v H' F' d, ds[i]? = some d → Sub F F' → Sub F' H → Y i H v H' → ∃ F'', Grow F' H F'' H' ∧ Rep X.K X.mg F'' d v
def tI (X : Km) (J : Anc) (W : WX) (m : En → Res (List D)) : TI := fun σ H R => ∃ (F : Hp) (A : Addr → Prop) (s : En), Rel X J F H s σ A ∧ match m s with
  | .ok ds s1 => ∀ (j : It) (F1 H1 : Hp) (A1 : Addr → Prop), Stp A F H A1 F1 H1 → Rel X J F1 H1 s1 σ A1 → Yields X j ds F1 → R j H1
  | .ex c fs s1 => ∀ (cls : Value) (dx : Option Addr) (F1 H1 : Hp) (A1 : Addr → Prop), Stp A F H A1 F1 H1 → Rel X J F1 H1 s1 σ A1 → Exc X A1 F1 H1 c fs cls dx → W cls dx σ H1
  | .bad => False
theorem piImp {tg e : Expr} {t t' : TI} (h : PI X tg e t) (m : ∀ σ H R, t' σ H R → t σ H R) : PI X tg e t' := ⟨fun pins s σ H R I q => h.run pins s σ H R I (m σ H R q)⟩
def forL (g : D → En → Option En) (b : MS) : List D → En → Out
  | [], s => .nx s
  | d :: ds, s => match g d s with
    | none => .bad
    | some s1 => match b s1 with
      | .nx s2 => forL g b ds s2
      | .ct s2 => forL g b ds s2
      | .bk s2 => .nx s2
      | o => o
def mFor (it : En → Res (List D)) (g : D → En → Option En) (b : MS) : MS := fun s => (it s).out fun ds s1 => forL g b ds s1
theorem gs_for {tg iter : Expr} {body : List Stmt} {it : En → Res (List D)} {g : D → En → Option En} {sl : List Nat} {b : MS} {pos : Pos} (hp : PassesOwn (model X.prog X.w) X.A X.env X.xe) (hc : X.calm = true) (hi : PI X tg iter (tI (km X) J W it)) (hg : PG X tg (tGt (km X) J sl g)) (hb : PSs X body (tS (km X) J W b))
    (hs : ∀ x, foldedSetIterable iter X.env x = pure x := by intro _; rfl) : PS X (.For tg iter body [] pos) (tS (km X) J W (mFor it g b)) := psImp (ps_for hp hc hi hg hb hs) fun D σ H ⟨F, A, s, R, q⟩ => by
  refine ⟨F, A, s, R, ?_⟩
  unfold mFor at q
  cases e : it s with
  | bad => rw [e] at q; exact q
  | ex c fs s1 => rw [e] at q; exact fun cls dx F1 H1 A1 S R1 x => q cls dx σ F1 H1 A1 S R1 x
  | ok ds s1 =>
    rw [e] at q
    intro j F1 H1 A1 S1 R1 y
    obtain ⟨G, Y, w, hG, hY⟩ := y.w
    refine for_it w (fun i σ H => ∃ (F2 : Hp) (A2 : Addr → Prop) (s2 : En), Rel (km X) J F2 H s2 σ A2 ∧ Sub F1 F2 ∧ SOk (km X) J W D A2 F2 H (forL g b (ds.drop i) s2)) ⟨F1, A1, s1, R1, Sub.refl _, SOk.shift S1 q⟩ (fun i σ H _ ⟨F2, A2, s2, R2, sF, _⟩ => hG F2 H sF R2.sub) ?_ ?_
    · rintro i x σ2 H2 H3 hi ⟨F2, A2, s2, R2, sF, q2⟩ hy
      have hd : ds[i]? = some ds[i] := by simp [hi]
      obtain ⟨F3, gr, rp⟩ := hY i H2 x H3 F2 _ hd sF R2.sub hy
      have R3 := R2.grow gr
      have q3 : SOk (km X) J W D A2 F3 H3 (forL g b (ds.drop i) s2) := SOk.shift gr.stp q2
      rw [List.drop_eq_getElem_cons hi] at q3
      unfold forL at q3
      cases eg : g ds[i] s2 with
      | none => rw [eg] at q3; exact q3.elim
      | some s3 =>
        rw [eg] at q3
        refine ⟨F3, A2, s2, _, s3, R3, rp, eg, fun σ3 R4 _ _ => ⟨F3, A2, s3, R4, ?_⟩⟩
        have sF3 := sF.trans gr.f
        dsimp only at q3
        cases eb : b s3 with
        | nx s4 => rw [eb] at q3; exact fun σ4 F4 H4 A4 S4 R5 => ⟨F4, A4, s4, R5, sF3.trans S4.mono, SOk.shift S4 q3⟩
        | ct s4 => rw [eb] at q3; exact fun σ4 F4 H4 A4 S4 R5 => ⟨F4, A4, s4, R5, sF3.trans S4.mono, SOk.shift S4 q3⟩
        | bk s4 => rw [eb] at q3; exact q3
        | rt d s4 => rw [eb] at q3; exact q3
        | ro d s4 => rw [eb] at q3; exact q3
        | ex c fs s4 => rw [eb] at q3; exact q3
        | bad => rw [eb] at q3; exact q3
    · rintro σ2 H2 ⟨F2, A2, s2, R2, sF, q2⟩
      rw [List.drop_length] at q2
      exact q2 σ2 F2 H2 A2 Stp.refl R2
def whileL (c : MT) (b : MS) : Nat → En → Out
  | 0, _ => .bad
  | n + 1, s => (c s).out fun k s1 => match k with
    | true => match b s1 with
      | .nx s2 => whileL c b n s2
      | .ct s2 => whileL c b n s2
      | .bk s2 => .nx s2
      | o => o
    | false => .nx s1
theorem gs_while {c : Expr} {body : List Stmt} {tc : MT} {b : MS} {pos : Pos} (n : Nat) (hp : PassesOwn (model X.prog X.w) X.A X.env X.xe) (hc : PT X c (tT (km X) J W tc)) (hb : PSs X body (tS (km X) J W b)) : PS X (.While c body [] pos) (tS (km X) J W (whileL tc b n)) := psImp (ps_while hp hc hb) fun D σ H ⟨F, A, s, R, q⟩ => by
  refine ⟨fun m σ H => ∃ (F2 : Hp) (A2 : Addr → Prop) (s2 : En), Rel (km X) J F2 H s2 σ A2 ∧ SOk (km X) J W D A2 F2 H (whileL tc b m s2), ⟨n, F, A, s, R, q⟩, ?_⟩
  rintro m σ H ⟨F2, A2, s2, R2, q2⟩
  cases m with
  | zero => exact q2.elim
  | succ m =>
    refine bindS (P := PEq Bool) R2 q2 fun k s3 x F3 H3 A3 S3 R3 p q3 => ?_
    cases p
    cases k with
    | false => rw [if_neg (by decide)]; exact q3 σ F3 H3 A3 Stp.refl R3
    | true =>
      rw [if_pos rfl]
      refine ⟨fun σ' H' => ∃ (F2 : Hp) (A2 : Addr → Prop) (s2 : En), Rel (km X) J F2 H' s2 σ' A2 ∧ SOk (km X) J W D A2 F2 H' (whileL tc b m s2), fun σ' H' h => ⟨m, Nat.lt_succ_self m, h⟩, F3, A3, s3, R3, ?_⟩
      dsimp only at q3
      cases eb : b s3 with
      | nx s4 => rw [eb] at q3; exact fun σ4 F4 H4 A4 S4 R5 => ⟨F4, A4, s4, R5, SOk.shift S4 q3⟩
      | ct s4 => rw [eb] at q3; exact fun σ4 F4 H4 A4 S4 R5 => ⟨F4, A4, s4, R5, SOk.shift S4 q3⟩
      | bk s4 => rw [eb] at q3; exact q3
      | rt d s4 => rw [eb] at q3; exact q3
      | ro d s4 => rw [eb] at q3; exact q3
      | ex c fs s4 => rw [eb] at q3; exact q3
      | bad => rw [eb] at q3; exact q3
end
end Mir
namespace Mir
open PySem PySem.Spec PyProof.Rows L2

/-! ### defs -/
/-- how arguments lie, for a def: those that the mask marks are lent and may be changed -/
structure RelA (K : PySem.W.Frag) (mg : Str → Option Value) (F H : Hp) (sd : En) (σ : L2.St) (A : Addr → Prop) : Prop where
  sub : Sub F H
  frz : ∀ (i : Nat) (d : D), sd[i]? = some (Sl.d d) → ∃ v, σ[i]? = some (some v) ∧ Rep K mg F d v
  lay : ∃ fp : Nat → List Addr, (∀ (i : Nat) (d : D), sd[i]? = some (Sl.b d) → ∃ v, σ[i]? = some (some v) ∧ Own K mg F H d v (fp i)) ∧ (∀ (i j : Nat) (a : Addr), a ∈ fp i → a ∈ fp j → i = j) ∧ (∀ (i : Nat) (a : Addr), a ∈ fp i → A a)
  free : ∀ a, A a → F a = none
  there : ∀ a, A a → Mut (H a)
def args : List Bool → List D → En
  | _, [] => []
  | [], d :: ds => .d d :: args [] ds
  | false :: m, d :: ds => .d d :: args m ds
  | true :: m, d :: ds => .b d :: args m ds
def keep : List Bool → En → En
  | [], _ => []
  | _, [] => []
  | true :: m, x :: s => x :: keep m s
  | false :: m, _ :: s => .no :: keep m s
/-- what a def promises: f tells it -/
def spM (K : PySem.W.Frag) (mg : Str → Option Value) (n : Nat) (m : List Bool) (f : List D → Out) : Sp := fun vs H Q E => vs.length = n ∧ ∃ (F : Hp) (A : Addr → Prop) (ds : List D), ds.length = vs.length ∧ RelA K mg F H (args m ds) (vs.map some) A ∧ match f ds with
  | .rt d s => ∀ (v : V) (F1 H1 : Hp) (A1 : Addr → Prop), Stp A F H A1 F1 H1 → RelA K mg F1 H1 s (vs.map some) A1 → Rep K mg F1 d v → Q v H1
  | .ro d s => ∀ (v : V) (F1 H1 : Hp) (A1 : Addr → Prop) (B : List Addr), Stp A F H A1 F1 H1 → RelA K mg F1 H1 s (vs.map some) A1 → Own K mg F1 H1 d v B → (∀ a ∈ B, F1 a = none ∧ ¬ A1 a ∧ (A a ∨ H a = none)) → Q v H1
  | .ex c fs s => ∀ (cls : Value) (dx : Option Addr) (F1 H1 : Hp) (A1 : Addr → Prop), Stp A F H A1 F1 H1 → RelA K mg F1 H1 s (vs.map some) A1 →
      (∃ C : Addr, mg c = some (.ref C) ∧ cls = .ref C ∧ ((fs = [] ∧ dx = none) ∨ ∃ (f : Str) (d : D) (a : Addr) (v : V), fs = [(f, d)] ∧ dx = some a ∧ H1 a = some (.xd [(f, v)]) ∧ ¬ A1 a ∧ Rep K mg F1 d v)) → E cls dx H1
  | _ => False
/-- the def's function, of its body's -/
def fnB (n : Nat) (m : List Bool) (b : MS) (ds : List D) : Out := match b (args m ds ++ List.replicate (n - ds.length) .no) with
  | .nx s => .rt .non (keep m s)
  | .rt d s => .rt d (keep m s)
  | .ro d s => .ro d (keep m s)
  | .ex c fs s => .ex c fs (keep m s)
  | _ => .bad
def jOf (m : List Bool) (vs : List V) : Anc := ⟨(List.range m.length).filterMap fun i => if m.getD i false = true then vs[i]?.map (fun v => (i, v)) else none, []⟩
theorem jOf_mem {m : List Bool} {vs : List V} {p : Nat × V} (h : p ∈ (jOf m vs).j) : m.getD p.1 false = true ∧ vs[p.1]? = some p.2 := by
  obtain ⟨i, _, e⟩ := List.mem_filterMap.mp h
  split at e
  · rename_i hm
    cases q : vs[i]? with
    | none => rw [q] at e; cases e
    | some v => rw [q] at e; cases e; exact ⟨hm, q⟩
  · cases e
theorem of_jOf {m : List Bool} {vs : List V} {i : Nat} {v : V} (hm : m.getD i false = true) (hv : vs[i]? = some v) : (i, v) ∈ (jOf m vs).j := by
  refine List.mem_filterMap.mpr ⟨i, List.mem_range.mpr ?_, ?_⟩
  · by_cases h : i < m.length
    · exact h
    · rw [List.getD_eq_getElem?_getD, List.getElem?_eq_none (Nat.le_of_not_lt h)] at hm; cases hm
  · rw [if_pos hm, hv]; rfl
theorem off_jOf {m : List Bool} {vs : List V} {i : Nat} (h : m.getD i false = false) : Off (jOf m vs) i := fun p hp e => by
  have q := (jOf_mem hp).1
  rw [e, h] at q; cases q
theorem args_length : ∀ {m : List Bool} {ds : List D}, (args m ds).length = ds.length
  | _, [] => by cases ‹List Bool› <;> rfl
  | [], d :: ds => congrArg Nat.succ (args_length (m := []) (ds := ds))
  | false :: m, d :: ds => congrArg Nat.succ (args_length (m := m) (ds := ds))
  | true :: m, d :: ds => congrArg Nat.succ (args_length (m := m) (ds := ds))
theorem keep_get : ∀ {m : List Bool} {s : En} {i : Nat} {x : Sl}, (keep m s)[i]? = some x → x = .no ∨ (m.getD i false = true ∧ s[i]? = some x)
  | [], _, i, x, h => by simp [keep] at h
  | b :: m, [], i, x, h => by cases b <;> simp [keep] at h
  | true :: m, y :: s, 0, x, h => by simp [keep] at h; subst h; exact .inr ⟨rfl, rfl⟩
  | false :: m, y :: s, 0, x, h => by simp [keep] at h; exact .inl h.symm
  | true :: m, y :: s, i + 1, x, h => by
    rcases keep_get (m := m) (s := s) (i := i) (x := x) (by simpa [keep] using h) with q | q
    · exact .inl q
    · exact .inr (by simpa using q)
  | false :: m, y :: s, i + 1, x, h => by
    rcases keep_get (m := m) (s := s) (i := i) (x := x) (by simpa [keep] using h) with q | q
    · exact .inl q
    · exact .inr (by simpa using q)
section
variable {P : Program} {w : World} {K : PySem.W.Frag} {mg : Str → Option Value} {base : Heap}
theorem fn_mir {x qual : Str} {st : Stmt} {f : Addr} {fd : FuncData} {N ps : List Str} {k : Nat} {m : List Bool} {b : MS} (F : Fun K x qual st f fd) (S : FnScope N ps (defScope st)) (hn : ps.length ≤ N.length) (hm : m.length ≤ ps.length)
    (body : ∀ (cdv : Value) (A : Around) (outer : List PySem.Env) (s : Shared) (H : Hp) (vs : List V) (E : XK), Room k (A.deeper (envOfC qual (defScope st) s.heap.objs.size f cdv)) →
      PSs (cxOf (L2.CX P w) P w K mg base N qual (defScope st) f cdv A outer s H E) (defBody st) (tS (km (cxOf (L2.CX P w) P w K mg base N qual (defScope st) f cdv A outer s H E)) (jOf m vs) (fun cls d _ H => E cls d H) b)) :
    FnOk P w K mg base (L2.CX P w) (k + 1) f fd ps (spM K mg ps.length m (fnB N.length m b)) := by
  refine F.okX S (fun vs H Q E h => h.1) fun cdv A outer s H vs Q E hr h => ?_
  obtain ⟨hl, G, B, ds, hd, R, q⟩ := h
  refine ⟨_, body cdv A outer s H vs E hr, G, B, args m ds ++ List.replicate (N.length - ds.length) .no, ?_, ?_⟩
  · have get1 : ∀ (i : Nat) (y : Sl), y ≠ .no → (args m ds ++ List.replicate (N.length - ds.length) Sl.no)[i]? = some y → (args m ds)[i]? = some y := fun i y ny h => by
      by_cases hi : i < (args m ds).length
      · rw [List.getElem?_append_left hi] at h; exact h
      · rw [List.getElem?_append_right (Nat.le_of_not_lt hi), List.getElem?_replicate] at h
        split at h
        · cases h; exact absurd rfl ny
        · cases h
    have get2 : ∀ (i : Nat) (y : V), (vs.map some)[i]? = some (some y) → (L2.start N vs)[i]? = some (some y) := fun i y h => by
      unfold L2.start
      rw [List.getElem?_append_left (List.getElem?_eq_some_iff.mp h).1]; exact h
    obtain ⟨fp, h1, h2, h3⟩ := R.lay
    refine ⟨R.sub, fun i d e => ?_, ⟨fp, fun i d e => ?_, h2, h3⟩, R.free, R.there, fun i c fs e => ?_, fun p hp => ?_, ?_⟩
    · obtain ⟨v, e1, e2⟩ := R.frz i d (get1 i _ (by intro z; cases z) e)
      exact ⟨v, get2 i v e1, e2⟩
    · obtain ⟨v, e1, e2⟩ := h1 i d (get1 i _ (by intro z; cases z) e)
      exact ⟨v, get2 i v e1, e2⟩
    · have e' := get1 i _ (by intro z; cases z) e
      have : ∀ (m : List Bool) (ds : List D) (i : Nat), (args m ds)[i]? ≠ some (.e c fs) := fun m ds => by
        induction ds generalizing m with
        | nil => intro i; cases m <;> simp [args]
        | cons d ds ih =>
          intro i
          cases m with
          | nil => cases i with
            | zero => simp [args]
            | succ i => simpa [args] using ih [] i
          | cons b m => cases b <;> cases i with
            | zero => simp [args]
            | succ i => simpa [args] using ih m i
      exact absurd e' (this m ds i)
    · obtain ⟨q1, q2⟩ := jOf_mem hp
      exact get2 _ _ (by rw [List.getElem?_map, q2]; rfl)
    · unfold L2.start
      rw [List.length_append, args_length, List.length_replicate, List.length_append, List.length_map, List.length_replicate]
      omega
  · -- the end
    have back : ∀ {σ : L2.St} {F1 H1 : Hp} {A1 : Addr → Prop} {s1 : En}, Rel (km (cxOf (L2.CX P w) P w K mg base N qual (defScope st) f cdv A outer s H E)) (jOf m vs) F1 H1 s1 σ A1 → RelA K mg F1 H1 (keep m s1) (vs.map some) A1 := fun {σ F1 H1 A1 s1} R1 => by
      obtain ⟨fp, h1, h2, h3⟩ := R1.lay
      have at_ : ∀ (i : Nat) (v : V), m.getD i false = true → σ[i]? = some (some v) → (vs.map some)[i]? = some (some v) := fun i v hi e => by
        have hlt : i < vs.length := by
          by_cases h : i < m.length
          · omega
          · rw [List.getD_eq_getElem?_getD, List.getElem?_eq_none (Nat.le_of_not_lt h)] at hi; cases hi
        have q := R1.anch (i, vs[i]) (of_jOf hi (by simp [hlt]))
        rw [e] at q
        rw [List.getElem?_map, List.getElem?_eq_getElem hlt]
        exact q.symm
      refine ⟨R1.sub, fun i d e => ?_, ⟨fp, fun i d e => ?_, h2, h3⟩, R1.free, R1.there⟩
      · rcases keep_get e with z | ⟨z1, z2⟩
        · cases z
        · obtain ⟨v, e1, e2⟩ := R1.frz i d z2
          exact ⟨v, at_ i v z1 e1, e2⟩
      · rcases keep_get e with z | ⟨z1, z2⟩
        · cases z
        · obtain ⟨v, e1, e2⟩ := h1 i d z2
          exact ⟨v, at_ i v z1 e1, e2⟩
    unfold fnB at q
    cases e : b (args m ds ++ List.replicate (N.length - ds.length) .no) with
    | nx s1 => rw [e] at q; exact fun σ F1 H1 A1 S1 R1 => q .non F1 H1 A1 S1 (back R1) .non
    | rt d s1 => rw [e] at q; exact fun v σ F1 H1 A1 S1 R1 r => q v F1 H1 A1 S1 (back R1) r
    | ro d s1 => rw [e] at q; exact fun v σ F1 H1 A1 B S1 R1 r hb => q v F1 H1 A1 B S1 (back R1) r hb
    | ex c fs s1 => rw [e] at q; exact fun cls dx σ F1 H1 A1 S1 R1 x => q cls dx F1 H1 A1 S1 (back R1) x
    | bk s1 => rw [e] at q; exact q.elim
    | ct s1 => rw [e] at q; exact q.elim
    | bad => rw [e] at q; exact q.elim
end

/-! ### calls -/
/-- the data of the arguments: lent ones by the mask -/
def argD (s : En) : List Bool → List AV → Option (List D)
  | _, [] => some []
  | true :: m, .own i :: as => match s[i]?, argD s m as with
    | some (.b d), some ds => some (d :: ds)
    | _, _ => none
  | false :: m, .d d :: as => match argD s m as with
    | some ds => some (d :: ds)
    | none => none
  | [], .d d :: as => match argD s [] as with
    | some ds => some (d :: ds)
    | none => none
  | _, _ => none
/-- the slots that are lent -/
def lent : List AV → List Nat
  | [] => []
  | .own i :: as => i :: lent as
  | .d _ :: as => lent as
/-- what was lent comes back -/
def back (s : En) : List AV → En → En
  | .own i :: as, .b d :: r => back (s.set i (.b d)) as r
  | .own i :: as, _ :: r => back (s.set i .no) as r
  | .own i :: as, [] => back (s.set i .no) as []
  | .d _ :: as, _ :: r => back s as r
  | .d _ :: as, [] => back s as []
  | [], _ => s
/-- a call of a def of n parameters -/
def mCall (n : Nat) (m : List Bool) (f : List D → Out) (as : MA) : ME := fun s => (as s).bind fun as s1 => match argD s1 m as with
  | some ds => if ds.length = n ∧ (lent as).Nodup then match f ds with
    | .rt d r => .ok d (back s1 as r)
    | .ex c fs r => .ex c fs (back s1 as r)
    | _ => .bad
    else .bad
  | none => .bad
/-- .. that hands out a container of its own -/
def mCallF (n : Nat) (m : List Bool) (f : List D → Out) (as : MA) : ME := fun s => (as s).bind fun as s1 => match argD s1 m as with
  | some ds => if ds.length = n ∧ (lent as).Nodup then match f ds with
    | .ro d r => .ok d (back s1 as r)
    | .ex c fs r => .ex c fs (back s1 as r)
    | _ => .bad
    else .bad
  | none => .bad
end Mir
namespace Mir
open PySem PySem.Spec PyProof.Rows L2
def isOwn (i : Nat) : AV → Bool
  | .own j => j == i
  | .d _ => false
def posOf (as : List AV) (i : Nat) : Option Nat := match as with
  | [] => none
  | a :: as => if isOwn i a then some 0 else (posOf as i).map (· + 1)
theorem posOf_mem : ∀ {as : List AV} {i k : Nat}, posOf as i = some k → as[k]? = some (.own i)
  | a :: as, i, k, h => by
    unfold posOf at h
    split at h
    · rename_i ha
      cases h
      cases a with
      | own j => simp [isOwn] at ha; simp [ha]
      | d x => simp [isOwn] at ha
    · cases e : posOf as i with
      | none => rw [e] at h; cases h
      | some k' => rw [e] at h; cases h; simpa using posOf_mem e
theorem lent_mem : ∀ {as : List AV} {i : Nat}, i ∈ lent as ↔ ∃ k : Nat, as[k]? = some (.own i)
  | [], i => by simp [lent]
  | .own j :: as, i => by
    unfold lent
    rw [List.mem_cons, lent_mem]
    constructor
    · rintro (h | ⟨k, h⟩)
      · exact ⟨0, by simp [h]⟩
      · exact ⟨k + 1, by simpa using h⟩
    · rintro ⟨k, h⟩
      cases k with
      | zero => simp at h; exact .inl h.symm
      | succ k => exact .inr ⟨k, by simpa using h⟩
  | .d x :: as, i => by
    unfold lent
    rw [lent_mem]
    constructor
    · rintro ⟨k, h⟩; exact ⟨k + 1, by simpa using h⟩
    · rintro ⟨k, h⟩
      cases k with
      | zero => simp at h
      | succ k => exact ⟨k, by simpa using h⟩
theorem lent_once : ∀ {as : List AV} {i k k' : Nat}, (lent as).Nodup → as[k]? = some (.own i) → as[k']? = some (.own i) → k = k'
  | [], _, _, _, _, h, _ => by simp at h
  | .d x :: as, i, k, k', nd, h, h' => by
    cases k with
    | zero => simp at h
    | succ k => cases k' with
      | zero => simp at h'
      | succ k' => exact congrArg Nat.succ (lent_once (as := as) (i := i) nd (by simpa using h) (by simpa using h'))
  | .own j :: as, i, k, k', nd, h, h' => by
    have nd' := List.nodup_cons.mp (show (j :: lent as).Nodup from nd)
    cases k with
    | zero => cases k' with
      | zero => rfl
      | succ k' =>
        simp at h; subst h
        exact absurd (lent_mem.mpr ⟨k', by simpa using h'⟩) nd'.1
    | succ k => cases k' with
      | zero =>
        simp at h'; subst h'
        exact absurd (lent_mem.mpr ⟨k, by simpa using h⟩) nd'.1
      | succ k' => exact congrArg Nat.succ (lent_once (as := as) (i := i) nd'.2 (by simpa using h) (by simpa using h'))
theorem posOf_at {as : List AV} {i k : Nat} (nd : (lent as).Nodup) (h : as[k]? = some (.own i)) : posOf as i = some k := by
  have : ∀ (as : List AV) (k : Nat), as[k]? = some (.own i) → ∃ k', posOf as i = some k' := fun as => by
    induction as with
    | nil => intro k h; simp at h
    | cons a as ih =>
      intro k h
      unfold posOf
      by_cases ha : isOwn i a = true
      · exact ⟨0, by rw [if_pos ha]⟩
      · rw [if_neg ha]
        cases k with
        | zero => simp at h; subst h; simp [isOwn] at ha
        | succ k =>
          obtain ⟨k', e⟩ := ih k (by simpa using h)
          exact ⟨k' + 1, by rw [e]; rfl⟩
  obtain ⟨k', e⟩ := this as k h
  rw [e, lent_once nd h (posOf_mem e)]
theorem posOf_none {as : List AV} {i : Nat} (h : i ∉ lent as) : posOf as i = none := by
  cases e : posOf as i with
  | none => rfl
  | some k => exact absurd (lent_mem.mpr ⟨k, posOf_mem e⟩) h
theorem back_length : ∀ {as : List AV} {s r : En}, (back s as r).length = s.length
  | [], s, r => by simp [back]
  | .own i :: as, s, [] => by unfold back; rw [back_length, List.length_set]
  | .own i :: as, s, .b d :: r => by unfold back; rw [back_length, List.length_set]
  | .own i :: as, s, .no :: r => by unfold back; rw [back_length, List.length_set]
  | .own i :: as, s, .d x :: r => by unfold back; rw [back_length, List.length_set]
  | .own i :: as, s, .e c fs :: r => by unfold back; rw [back_length, List.length_set]
  | .d x :: as, s, [] => by unfold back; rw [back_length]
  | .d x :: as, s, _ :: r => by unfold back; rw [back_length]
theorem back_get : ∀ {as : List AV} {s r : En} {i : Nat} {x : Sl}, (back s as r)[i]? = some x →
    (i ∉ lent as ∧ s[i]? = some x) ∨ ∃ k : Nat, as[k]? = some (.own i) ∧ ((∃ d, r[k]? = some (.b d) ∧ x = .b d) ∨ x = .no)
  | [], s, r, i, x, h => .inl ⟨by simp [lent], by simpa [back] using h⟩
  | .d y :: as, s, r, i, x, h => by
    have go : ∀ r', (back s as r')[i]? = some x → (∀ (k : Nat) (z : Sl), r'[k]? = some z → r[k + 1]? = some z) → (i ∉ lent (.d y :: as) ∧ s[i]? = some x) ∨ ∃ k : Nat, (AV.d y :: as)[k]? = some (.own i) ∧ ((∃ d, r[k]? = some (.b d) ∧ x = .b d) ∨ x = .no) := fun r' h hr => by
      rcases back_get h with ⟨h1, h2⟩ | ⟨k, h1, h2⟩
      · exact .inl ⟨h1, h2⟩
      · refine .inr ⟨k + 1, by simpa using h1, h2.imp ?_ id⟩
        rintro ⟨d, e1, e2⟩
        exact ⟨d, hr k _ e1, e2⟩
    cases r with
    | nil => exact go [] (by simpa [back] using h) (by simp)
    | cons z r => exact go r (by simpa [back] using h) (by simp)
  | .own j :: as, s, r, i, x, h => by
    have go : ∀ (y : Sl) (r' : En), (back (s.set j y) as r')[i]? = some x → (∀ (k : Nat) (z : Sl), r'[k]? = some z → r[k + 1]? = some z) → ((∃ d, r[0]? = some (.b d) ∧ y = .b d) ∨ y = .no) →
        (i ∉ lent (.own j :: as) ∧ s[i]? = some x) ∨ ∃ k : Nat, (AV.own j :: as)[k]? = some (.own i) ∧ ((∃ d, r[k]? = some (.b d) ∧ x = .b d) ∨ x = .no) := fun y r' h hr hy => by
      rcases back_get h with ⟨h1, h2⟩ | ⟨k, h1, h2⟩
      · rcases getD_set h2 with ⟨rfl, _, q⟩ | ⟨n, q⟩
        · subst q; exact .inr ⟨0, rfl, hy⟩
        · refine .inl ⟨fun z => ?_, q⟩
          rcases List.mem_cons.mp (show i ∈ j :: lent as from z) with z | z
          · exact n z
          · exact h1 z
      · refine .inr ⟨k + 1, by simpa using h1, h2.imp ?_ id⟩
        rintro ⟨d, e1, e2⟩
        exact ⟨d, hr k _ e1, e2⟩
    cases r with
    | nil => exact go .no [] (by simpa [back] using h) (by simp) (.inr rfl)
    | cons z r => cases z with
      | b d => exact go (.b d) r (by simpa [back] using h) (by simp) (.inl ⟨d, rfl, rfl⟩)
      | no => exact go .no r (by simpa [back] using h) (by simp) (.inr rfl)
      | d x => exact go .no r (by simpa [back] using h) (by simp) (.inr rfl)
      | e c fs => exact go .no r (by simpa [back] using h) (by simp) (.inr rfl)
theorem argD_length : ∀ {s : En} {m : List Bool} {as : List AV} {ds : List D}, argD s m as = some ds → ds.length = as.length
  | s, m, [], ds, h => by unfold argD at h; cases h; rfl
  | s, true :: m, .own i :: as, ds, h => by
    unfold argD at h
    split at h
    · rename_i e; cases h; exact congrArg Nat.succ (argD_length e)
    · cases h
  | s, false :: m, .d d :: as, ds, h => by
    unfold argD at h
    split at h
    · rename_i e; cases h; exact congrArg Nat.succ (argD_length e)
    · cases h
  | s, [], .d d :: as, ds, h => by
    unfold argD at h
    split at h
    · rename_i e; cases h; exact congrArg Nat.succ (argD_length e)
    · cases h
  | s, true :: m, .d d :: as, ds, h => by simp [argD] at h
  | s, false :: m, .own i :: as, ds, h => by simp [argD] at h
  | s, [], .own i :: as, ds, h => by simp [argD] at h
/-- what the k-th argument is -/
theorem argD_get : ∀ {s : En} {m : List Bool} {as : List AV} {ds : List D} {k : Nat} {x : Sl}, argD s m as = some ds → (args m ds)[k]? = some x → (∃ d, x = .d d ∧ as[k]? = some (.d d)) ∨ (∃ d i, x = .b d ∧ as[k]? = some (.own i) ∧ s[i]? = some (.b d))
  | s, m, [], ds, k, x, h, e => by
    unfold argD at h; cases h
    cases m <;> simp [args] at e
  | s, true :: m, .own i :: as, ds, k, x, h, e => by
    unfold argD at h
    split at h
    · rename_i d ds' e1 e2
      cases h
      cases k with
      | zero => simp [args] at e; subst e; exact .inr ⟨d, i, rfl, rfl, e1⟩
      | succ k => simpa using argD_get (k := k) e2 (by simpa [args] using e)
    · cases h
  | s, false :: m, .d d :: as, ds, k, x, h, e => by
    unfold argD at h
    split at h
    · rename_i ds' e2
      cases h
      cases k with
      | zero => simp [args] at e; subst e; exact .inl ⟨d, rfl, rfl⟩
      | succ k => simpa using argD_get (k := k) e2 (by simpa [args] using e)
    · cases h
  | s, [], .d d :: as, ds, k, x, h, e => by
    unfold argD at h
    split at h
    · rename_i ds' e2
      cases h
      cases k with
      | zero => simp [args] at e; subst e; exact .inl ⟨d, rfl, rfl⟩
      | succ k => simpa using argD_get (m := []) (k := k) e2 (by simpa [args] using e)
    · cases h
  | s, true :: m, .d d :: as, ds, k, x, h, e => by simp [argD] at h
  | s, false :: m, .own i :: as, ds, k, x, h, e => by simp [argD] at h
  | s, [], .own i :: as, ds, k, x, h, e => by simp [argD] at h
section
variable {X : Cx} {J : Anc} {W : WX} {σ : L2.St} {A : Addr → Prop} {F H : Hp} {s : En}
theorem AR.length : ∀ {as : List AV} {vs : List V}, AR (km X) σ F as vs → vs.length = as.length
  | _, _, .nil => rfl
  | _, _, .cons _ r => congrArg Nat.succ (AR.length r)
theorem AR.get : ∀ {as : List AV} {vs : List V} {k : Nat} {a : AV}, AR (km X) σ F as vs → as[k]? = some a → ∃ v, vs[k]? = some v ∧ A1 (km X) σ F a v
  | _, _, _, _, .nil, e => by simp at e
  | _, _, 0, _, .cons p r, e => by simp at e; subst e; exact ⟨_, rfl, p⟩
  | _, _, k + 1, _, .cons p r, e => by
    obtain ⟨v, h1, h2⟩ := AR.get (k := k) r (by simpa using e)
    exact ⟨v, by simpa using h1, h2⟩
/-- into a call and back -/
theorem Rel.call {as : List AV} {vs : List V} {ds : List D} {m : List Bool} (R : Rel (km X) J F H s σ A) (p : AR (km X) σ F as vs) (e : argD s m as = some ds) (nd : (lent as).Nodup) :
    ∃ Ac : Addr → Prop, RelA X.K X.mg F H (args m ds) (vs.map some) Ac ∧ (∀ a, Ac a → A a) ∧ ∀ (F1 H1 : Hp) (A1 : Addr → Prop) (r : En), Stp Ac F H A1 F1 H1 → RelA X.K X.mg F1 H1 r (vs.map some) A1 →
      ∃ A2 : Addr → Prop, Stp A F H A2 F1 H1 ∧ Rel (km X) J F1 H1 (back s as r) σ A2 ∧ ∀ a, A2 a → A1 a ∨ (A a ∧ ¬ Ac a ∧ Mut (H1 a)) := by
  obtain ⟨fp, h1, h2, h3⟩ := R.lay
  let fpA : Nat → List Addr := fun k => match as[k]? with
    | some (.own i) => fp i
    | _ => []
  have fpA_own : ∀ {k i : Nat}, as[k]? = some (.own i) → fpA k = fp i := fun {k i} h => by show (match as[k]? with | some (.own i) => fp i | _ => []) = _; rw [h]
  have fpA_mem : ∀ {k : Nat} {a : Addr}, a ∈ fpA k → ∃ i, as[k]? = some (.own i) ∧ a ∈ fp i := fun {k a} h => by
    have h' : a ∈ (match as[k]? with | some (.own i) => fp i | _ => []) := h
    split at h'
    · rename_i i hi; exact ⟨i, hi, h'⟩
    · simp at h'
  let Ac : Addr → Prop := fun a => ∃ i, i ∈ lent as ∧ a ∈ fp i
  have AcA : ∀ a, Ac a → A a := fun a ⟨i, _, q⟩ => h3 i a q
  refine ⟨Ac, ⟨R.sub, fun k d hk => ?_, ⟨fpA, fun k d hk => ?_, fun j k a hj hk => ?_, fun k a hk => ?_⟩, fun a h => R.free a (AcA a h), fun a h => R.there a (AcA a h)⟩, AcA, ?_⟩
  · rcases argD_get e hk with ⟨d', e1, e2⟩ | ⟨d', i, e1, _⟩
    · cases e1
      obtain ⟨v, q1, q2⟩ := p.get e2
      cases q2 with
      | d q => exact ⟨v, by rw [List.getElem?_map, q1]; rfl, q⟩
    · cases e1
  · rcases argD_get e hk with ⟨d', e1, _⟩ | ⟨d', i, e1, e2, e3⟩
    · cases e1
    · cases e1
      obtain ⟨v, q1, q2⟩ := p.get e2
      cases q2 with
      | own q =>
        obtain ⟨v', r1, r2⟩ := h1 i d e3
        rw [q] at r1; cases r1
        exact ⟨v, by rw [List.getElem?_map, q1]; rfl, by rw [fpA_own e2]; exact r2⟩
  · obtain ⟨i, e1, m1⟩ := fpA_mem hj
    obtain ⟨i', e2, m2⟩ := fpA_mem hk
    have := h2 i i' a m1 m2
    subst this
    exact lent_once nd e1 e2
  · obtain ⟨i, e1, m1⟩ := fpA_mem hk
    exact ⟨i, lent_mem.mpr ⟨k, e1⟩, m1⟩
  · intro F1 H1 A1 r S R1
    obtain ⟨fp1, g1, g2, g3⟩ := R1.lay
    have keepN : ∀ {a o}, H a = some o → ¬ Ac a → H1 a = some o := fun {a o} h n => S.keep a o h n
    have notA1 : ∀ {a o}, H a = some o → ¬ Ac a → ¬ A1 a := fun {a o} h n z => by
      rcases S.own a z with q | q
      · exact n q
      · rw [q] at h; cases h
    let A2 : Addr → Prop := fun a => (A a ∧ ¬ Ac a) ∨ A1 a
    let fp2 : Nat → List Addr := fun i => match posOf as i with
      | some k => fp1 k
      | none => fp i
    have fp2_lent : ∀ {i k : Nat}, as[k]? = some (.own i) → fp2 i = fp1 k := fun {i k} h => by show (match posOf as i with | some k => fp1 k | none => fp i) = _; rw [posOf_at nd h]
    have fp2_no : ∀ {i : Nat}, i ∉ lent as → fp2 i = fp i := fun {i} h => by show (match posOf as i with | some k => fp1 k | none => fp i) = _; rw [posOf_none h]
    have apart : ∀ {i j k : Nat} {a : Addr}, i ∉ lent as → a ∈ fp i → as[k]? = some (.own j) → a ∉ fp1 k := fun {i j k a} hi ha hk z => by
      obtain ⟨o, ho⟩ := R.ex a (h3 i a ha)
      refine notA1 ho (fun ⟨i', hi', ha'⟩ => ?_) (g3 k a z)
      have := h2 i i' a ha ha'
      subst this
      exact hi hi'
    refine ⟨A2, ⟨fun a o h n => ?_, S.mono, fun a o h n => ?_, fun a h => ?_⟩, ⟨R1.sub, fun i d hi => ?_, ⟨fp2, fun i d hi => ?_, fun i j a hi hj => ?_, fun i a hi => ?_⟩, fun a h => ?_, fun a h => ?_, fun i c fs hi => ?_, R.anch, by rw [back_length]; exact R.len⟩, fun a h => ?_⟩
    · exact keepN h fun z => n (AcA a z)
    · exact (S.new a o h n).imp id (AcA a)
    · rcases h with h | h
      · exact .inl h.1
      · exact (S.own a h).imp (AcA a) id
    · rcases back_get hi with ⟨_, q⟩ | ⟨k, _, ⟨d', _, q⟩ | q⟩
      · obtain ⟨v, q1, q2⟩ := R.frz i d q
        exact ⟨v, q1, q2.mono S.mono⟩
      · cases q
      · cases q
    · rcases back_get hi with ⟨n, q⟩ | ⟨k, hk, ⟨d', hr, q⟩ | q⟩
      · obtain ⟨v, q1, q2⟩ := h1 i d q
        refine ⟨v, q1, ?_⟩
        rw [fp2_no n]
        refine q2.keep S.mono fun a ha o h => keepN h fun ⟨i', hi', ha'⟩ => ?_
        have := h2 i i' a ha ha'
        subst this
        exact n hi'
      · cases q
        obtain ⟨v, q1, q2⟩ := g1 k d hr
        obtain ⟨v', r1, r2⟩ := p.get hk
        cases r2 with
        | own r2 =>
          rw [List.getElem?_map, r1] at q1
          cases q1
          exact ⟨_, r2, by rw [fp2_lent hk]; exact q2⟩
      · cases q
    · by_cases ni : i ∈ lent as
      · obtain ⟨k, hk⟩ := lent_mem.mp ni
        rw [fp2_lent hk] at hi
        by_cases nj : j ∈ lent as
        · obtain ⟨k', hk'⟩ := lent_mem.mp nj
          rw [fp2_lent hk'] at hj
          have := g2 k k' a hi hj
          subst this
          rw [hk] at hk'; cases hk'; rfl
        · rw [fp2_no nj] at hj
          exact absurd hi (apart nj hj hk)
      · rw [fp2_no ni] at hi
        by_cases nj : j ∈ lent as
        · obtain ⟨k', hk'⟩ := lent_mem.mp nj
          rw [fp2_lent hk'] at hj
          exact absurd hj (apart ni hi hk')
        · rw [fp2_no nj] at hj
          exact h2 i j a hi hj
    · by_cases ni : i ∈ lent as
      · obtain ⟨k, hk⟩ := lent_mem.mp ni
        rw [fp2_lent hk] at hi
        exact .inr (g3 k a hi)
      · rw [fp2_no ni] at hi
        refine .inl ⟨h3 i a hi, fun ⟨i', hi', ha'⟩ => ?_⟩
        have := h2 i i' a hi ha'
        subst this
        exact ni hi'
    · rcases h with ⟨h, n⟩ | h
      · cases q : F1 a with
        | none => rfl
        | some o =>
          obtain ⟨u, hu⟩ := R.ex a h
          rcases S.new a o q (R.free a h) with z | z
          · rw [hu] at z; cases z
          · exact absurd z n
      · exact R1.free a h
    · rcases h with ⟨h, n⟩ | h
      · obtain ⟨u, hu⟩ := R.ex a h
        have q := R.there a h
        rw [hu] at q; rw [keepN hu n]; exact q
      · exact R1.there a h
    · rcases back_get hi with ⟨_, q⟩ | ⟨k, _, ⟨d', _, q⟩ | q⟩
      · obtain ⟨a, oe, C, q1, q2, q3, q4, q5⟩ := R.exn i c fs q
        refine ⟨a, oe, C, q1, q2, q3, q4, q5.imp id ?_⟩
        rintro ⟨f, d', dx, w, e1, e2, e3, e4, e5⟩
        have nc : ¬ Ac dx := fun z => e4 (AcA dx z)
        refine ⟨f, d', dx, w, e1, e2, keepN e3 nc, fun z => ?_, e5.mono S.mono⟩
        rcases z with z | z
        · exact e4 z.1
        · exact notA1 e3 nc z
      · cases q
      · cases q
    · rcases h with ⟨h, n⟩ | h
      · obtain ⟨u, hu⟩ := R.ex a h
        have q := R.there a h
        rw [hu] at q
        exact .inr ⟨h, n, by rw [keepN hu n]; exact q⟩
      · exact .inl h
theorem call_run {Q : VK} {as : MA} {n : Nat} {m : List Bool} {f : List D → Out} : tE (km X) J W (mCall n m f as) σ H Q → tCallS (spM X.K X.mg n m f) (WE W) (tAr (km X) J W as) σ H Q := fun ⟨F, A, s, R, q⟩ =>
  bindG (P := AR (km X) σ) (P' := PRep (km X)) R q fun as s1 vs F1 H1 A1 S R1 p q1 => by
    cases e : argD s1 m as with
    | none => rw [e] at q1; exact q1.elim
    | some ds =>
      rw [e] at q1
      dsimp only at q1
      by_cases hn : ds.length = n ∧ (lent as).Nodup
      · rw [if_pos hn] at q1
        have hl : ds.length = vs.length := by rw [argD_length e, p.length]
        obtain ⟨Ac, RA, AcA, back_⟩ := R1.call p e hn.2
        refine ⟨hl ▸ hn.1, F1, Ac, ds, hl, RA, ?_⟩
        cases ef : f ds with
        | rt d r =>
          rw [ef] at q1
          intro v F2 H2 A2 S2 R2 rp
          obtain ⟨A3, S3, R3, _⟩ := back_ F2 H2 A2 r S2 R2
          exact q1 v F2 H2 A3 S3 R3 rp
        | ex c fs r =>
          rw [ef] at q1
          intro cls dx F2 H2 A2 S2 R2 x
          obtain ⟨A3, S3, R3, hA⟩ := back_ F2 H2 A2 r S2 R2
          refine q1 cls dx F2 H2 A3 S3 R3 ?_
          obtain ⟨C, x1, x2, x3⟩ := x
          refine ⟨C, x1, x2, x3.imp id ?_⟩
          rintro ⟨fl, d, a, v, e1, e2, e3, e4, e5⟩
          refine ⟨fl, d, a, v, e1, e2, e3, fun z => ?_, e5⟩
          rcases hA a z with z | z
          · exact e4 z
          · have z := z.2.2
            rw [e3] at z; exact z
        | nx _ => rw [ef] at q1; exact q1.elim
        | bk _ => rw [ef] at q1; exact q1.elim
        | ct _ => rw [ef] at q1; exact q1.elim
        | ro _ _ => rw [ef] at q1; exact q1.elim
        | bad => rw [ef] at q1; exact q1.elim
      · rw [if_neg hn] at q1; exact q1.elim
theorem callF_run {Q : VK} {as : MA} {n : Nat} {m : List Bool} {f : List D → Out} : tF (km X) J W (mCallF n m f as) σ H Q → tCallS (spM X.K X.mg n m f) (WE W) (tAr (km X) J W as) σ H Q := fun ⟨F, A, s, R, q⟩ =>
  bindF (P := AR (km X) σ) R q fun as s1 vs F1 H1 A1 S R1 p q1 => by
    cases e : argD s1 m as with
    | none => rw [e] at q1; exact q1.elim
    | some ds =>
      rw [e] at q1
      dsimp only at q1
      by_cases hn : ds.length = n ∧ (lent as).Nodup
      · rw [if_pos hn] at q1
        have hl : ds.length = vs.length := by rw [argD_length e, p.length]
        obtain ⟨Ac, RA, AcA, back_⟩ := R1.call p e hn.2
        refine ⟨hl ▸ hn.1, F1, Ac, ds, hl, RA, ?_⟩
        cases ef : f ds with
        | ro d r =>
          rw [ef] at q1
          intro v F2 H2 A2 B S2 R2 ow hB
          obtain ⟨A3, S3, R3, hA⟩ := back_ F2 H2 A2 r S2 R2
          refine q1 v F2 H2 A3 B S3 R3 ow fun a ha => ?_
          obtain ⟨b1, b2, b3⟩ := hB a ha
          refine ⟨b1, fun z => ?_, b3.imp (AcA a) id⟩
          rcases hA a z with z | ⟨z1, z2, _⟩
          · exact b2 z
          · rcases b3 with b3 | b3
            · exact z2 b3
            · obtain ⟨u, hu⟩ := R1.ex a z1
              rw [b3] at hu; cases hu
        | ex c fs r =>
          rw [ef] at q1
          intro cls dx F2 H2 A2 S2 R2 x
          obtain ⟨A3, S3, R3, hA⟩ := back_ F2 H2 A2 r S2 R2
          refine q1 cls dx F2 H2 A3 S3 R3 ?_
          obtain ⟨C, x1, x2, x3⟩ := x
          refine ⟨C, x1, x2, x3.imp id ?_⟩
          rintro ⟨fl, d, a, v, e1, e2, e3, e4, e5⟩
          refine ⟨fl, d, a, v, e1, e2, e3, fun z => ?_, e5⟩
          rcases hA a z with z | z
          · exact e4 z
          · have z := z.2.2
            rw [e3] at z; exact z
        | nx _ => rw [ef] at q1; exact q1.elim
        | bk _ => rw [ef] at q1; exact q1.elim
        | ct _ => rw [ef] at q1; exact q1.elim
        | rt _ _ => rw [ef] at q1; exact q1.elim
        | bad => rw [ef] at q1; exact q1.elim
      · rw [if_neg hn] at q1; exact q1.elim
/-- f(e, ..), f a def of the text -/
theorem ge_call {x : Str} {p pos : Pos} {e : Expr} {es : List Expr} {as : MA} {n : Nat} {m : List Bool} {f : List D → Out} {k : Nat} {fa : Addr} {fd : FuncData} {ps : List Str} (tk : Takes X W) (G : FnOk X.prog X.w X.K X.mg X.base (L2.CX X.prog X.w) k fa fd ps (spM X.K X.mg n m f)) (hr : Room k X.A) (hg : Gl X x) (hm : X.mg x = some (.ref fa)) (hk : PySem.W.keepIn X.K (.ref fa) = true) (hb : Binds X.K fd ps [])
    (ha : PA X (e :: es) (tAr (km X) J W as)) (hdb : (x == ("__debug__" : Str)) = false := by decide) (he : starEach (e :: es) X.env = (false, eval e X.env) :: starEach es X.env := by rfl) (hpl : (backTo pos (starEach es X.env)).any (·.1) = false := by rfl) :
    PE X (.Call (.Name x p) (e :: es) [] pos) (tE (km X) J W (mCall n m f as)) := peImp (pe_callS G hr hg hm hk hb (fun σ => passAt tk σ) ha hdb he hpl) fun _ _ _ q => call_run q
theorem gf_call {x : Str} {p pos : Pos} {e : Expr} {es : List Expr} {as : MA} {n : Nat} {m : List Bool} {f : List D → Out} {k : Nat} {fa : Addr} {fd : FuncData} {ps : List Str} (tk : Takes X W) (G : FnOk X.prog X.w X.K X.mg X.base (L2.CX X.prog X.w) k fa fd ps (spM X.K X.mg n m f)) (hr : Room k X.A) (hg : Gl X x) (hm : X.mg x = some (.ref fa)) (hk : PySem.W.keepIn X.K (.ref fa) = true) (hb : Binds X.K fd ps [])
    (ha : PA X (e :: es) (tAr (km X) J W as)) (hdb : (x == ("__debug__" : Str)) = false := by decide) (he : starEach (e :: es) X.env = (false, eval e X.env) :: starEach es X.env := by rfl) (hpl : (backTo pos (starEach es X.env)).any (·.1) = false := by rfl) :
    PE X (.Call (.Name x p) (e :: es) [] pos) (tF (km X) J W (mCallF n m f as)) := peImp (pe_callS G hr hg hm hk hb (fun σ => passAt tk σ) ha hdb he hpl) fun _ _ _ q => callF_run q
end
end Mir
namespace Mir
open PySem PySem.Spec PyProof.Rows L2

/-! ### operators -/
section
variable {X : Cx} {K : PySem.W.Frag} {mg : Str → Option Value} {F H : Hp}
theorem Vw.int {i : Int} {x : V} (h : Vw K mg F H (.int i) x) : x = .int i := by cases (show Rep K mg F (.int i) x from h); rfl
theorem Vw.str {i : Str} {x : V} (h : Vw K mg F H (.str i) x) : x = .str i := by cases (show Rep K mg F (.str i) x from h); rfl
theorem Vw.bl {i : Bool} {x : V} (h : Vw K mg F H (.bl i) x) : x = .bl i := by cases (show Rep K mg F (.bl i) x from h); rfl
theorem Vw.non {x : V} (h : Vw K mg F H .non x) : x = .non := by cases (show Rep K mg F .non x from h); rfl
theorem Vw.tup {ds : List D} {x : V} (h : Vw K mg F H (.tup ds) x) : ∃ (a : Addr) (vs : List V), x = .ref a ∧ SqT K F a vs ∧ Reps K mg F ds vs := by
  cases (show Rep K mg F (.tup ds) x from h) with
  | tup h1 h2 => exact ⟨_, _, rfl, h1, h2⟩
/-- + of two lists that are read -/
def rCatR (K : PySem.W.Frag) : R2 := fun x y H Q => ∃ l b xs zs, x = .ref l ∧ y = .ref b ∧ SqL K H l xs ∧ SqL K H b zs ∧ xs.length + zs.length ≤ sizeLine ∧ ∀ p, H p = none → Q (.ref p) (upd H p (.lst (xs ++ zs)))
theorem op_catR : OpR X (binaryOp .Add) (rCatR X.K) := by
  intro pins s σ H x y v u Q I rx ry h
  obtain ⟨l, b, xs, zs, rfl, rfl, hH, hB, hz, q⟩ := h
  cases rx
  cases ry
  obtain ⟨its, r, pl, _⟩ := I.list hH
  obtain ⟨its2, r2, pl2, _⟩ := I.list hB
  obtain ⟨⟨cls, dd, data, sl⟩, ho, hc, n, hd⟩ := pl.isList
  obtain ⟨⟨cls2, dd2, data2, sl2⟩, ho2, hc2, n2, hd2⟩ := pl2.isList
  simp only at hc hd hc2 hd2
  subst hc hd hc2 hd2
  have ea : its.toArray ++ its2.toArray = (its ++ its2).toArray := by simp
  have hsz : its.toArray.size + its2.toArray.size ≤ sizeLine := by rw [List.size_toArray, List.size_toArray, ← r.length, ← r2.length]; omega
  refine concat_meets ⟨_, ho, rfl⟩ ⟨_, ho2, rfl⟩ noFill_list_add seq_list_add PySem.F.slot_list_add PySem.F.entry_list_add (PySem.F.args_list_add_2 _ _) (list_addW l b its.toArray its2.toArray n n2 dd dd2 sl sl2 hsz) ⟨ho, ho2, ?_⟩
  rw [ea]
  exact ⟨.ref _, _, I.lnew (t' := s.toks) (r.append r2) (by rw [List.length_append]; omega), rfl, q _ I.fresh⟩
def fAdd : D → D → Option D
  | .int i, .int j => some (.int (i + j))
  | .str a, .str b => if a.length + b.length ≤ sizeLine then some (.str (a ++ b)) else none
  | .tup xs, .tup ys => if xs.length + ys.length ≤ sizeLine then some (.tup (xs ++ ys)) else none
  | .lst xs, .lst ys => if xs.length + ys.length ≤ sizeLine then some (.lst (xs ++ ys)) else none
  | _, _ => none
theorem or_add : OpR X (binaryOp .Add) (fun x y H Q => rI0 (fun i j => .int (i + j)) x y H Q ∨ ((∃ i j, x = .str i ∧ y = .str j ∧ i.length + j.length ≤ sizeLine ∧ Q (.str (i ++ j)) H) ∨ (rCatA X.K x y H Q ∨ rCatR X.K x y H Q))) :=
  op_add.or (op_add_str.or (op_catA.or op_catR))
theorem os_add : OpS K mg (fun x y H Q => rI0 (fun i j => .int (i + j)) x y H Q ∨ ((∃ i j, x = .str i ∧ y = .str j ∧ i.length + j.length ≤ sizeLine ∧ Q (.str (i ++ j)) H) ∨ (rCatA K x y H Q ∨ rCatR K x y H Q))) fAdd := by
  intro F H x y d1 d2 d Q s v1 v2 e k
  unfold fAdd at e
  split at e
  · cases e
    exact .inl ⟨_, _, v1.int, v2.int, k _ _ _ (Grow.refl s) (.int _)⟩
  · split at e
    · rename_i hz
      cases e
      exact .inr (.inl ⟨_, _, v1.str, v2.str, hz, k _ _ _ (Grow.refl s) (.str _)⟩)
    · cases e
  · split at e
    · rename_i xs ys hz
      cases e
      obtain ⟨a, vs, rfl, h1, r1⟩ := v1.tup
      obtain ⟨b, us, rfl, h2, r2⟩ := v2.tup
      refine .inr (.inr (.inl ⟨a, b, vs, us, rfl, rfl, s.sqT h1, s.sqT h2, by rw [← r1.length, ← r2.length]; exact hz, fun z => ?_, fun _ z => ?_, fun _ _ p hp => ?_⟩))
      · subst z
        cases r1
        exact k _ _ _ (Grow.refl s) (.tup h2 r2)
      · subst z
        cases r2
        rw [List.append_nil] at k
        exact k _ _ _ (Grow.refl s) (.tup h1 r1)
      · exact k _ _ _ (Grow.one s hp) (.tup (.of upd_same) ((r1.append r2).mono (Grow.one s hp).f))
    · cases e
  · split at e
    · rename_i xs ys hz
      cases e
      obtain ⟨a, vs, rfl, h1, r1⟩ := v1
      obtain ⟨b, us, rfl, h2, r2⟩ := v2
      refine .inr (.inr (.inr ⟨a, b, vs, us, rfl, rfl, h1, h2, by rw [← r1.length, ← r2.length]; exact hz, fun p hp => ?_⟩))
      exact k _ _ _ (Grow.one s hp) (.lst (.of upd_same) ((r1.append r2).mono (Grow.one s hp).f))
    · cases e
  · cases e
/-- .. a fresh list -/
def fCatL : D → D → Option D
  | .lst xs, .lst ys => if xs.length + ys.length ≤ sizeLine then some (.lst (xs ++ ys)) else none
  | _, _ => none
theorem of_catL : OpF K mg (rCatR K) fCatL := by
  intro F H x y d1 d2 d Q s v1 v2 e k
  unfold fCatL at e
  split at e
  · split at e
    · rename_i xs ys hz
      cases e
      obtain ⟨a, vs, rfl, h1, r1⟩ := v1
      obtain ⟨b, us, rfl, h2, r2⟩ := v2
      exact ⟨a, b, vs, us, rfl, rfl, h1, h2, by rw [← r1.length, ← r2.length]; exact hz, fun p hp => k p _ F H (Grow.refl s) hp ⟨_, rfl, r1.append r2⟩⟩
    · cases e
  · cases e
def fI2 (f : Int → Int → Option D) : D → D → Option D
  | .int i, .int j => f i j
  | _, _ => none
theorem os_I {C : Int → Int → Prop} {g : Int → Int → V} {f : Int → Int → Option D} (h : ∀ i j d, f i j = some d → C i j ∧ ∀ F, Rep K mg F d (g i j)) : OpS K mg (rI C g) (fI2 f) := by
  intro F H x y d1 d2 d Q s v1 v2 e k
  unfold fI2 at e
  split at e
  · exact ⟨_, _, v1.int, v2.int, (h _ _ _ e).1, k _ _ _ (Grow.refl s) ((h _ _ _ e).2 F)⟩
  · cases e
theorem os_I0 {g : Int → Int → V} {f : Int → Int → Option D} (h : ∀ i j d, f i j = some d → ∀ F, Rep K mg F d (g i j)) : OpS K mg (rI0 g) (fI2 f) := by
  intro F H x y d1 d2 d Q s v1 v2 e k
  unfold fI2 at e
  split at e
  · exact ⟨_, _, v1.int, v2.int, k _ _ _ (Grow.refl s) (h _ _ _ e F)⟩
  · cases e
def fSub := fI2 fun i j => some (.int (i - j))
theorem os_sub : OpS K mg (rI0 fun i j => .int (i - j)) fSub := os_I0 fun i j d e F => by cases e; exact .int _
/-- small enough for a product -/
def s64 (i : Int) : Prop := -(2 ^ 64) < i ∧ i < 2 ^ 64
instance (i : Int) : Decidable (s64 i) := decidable_of_iff (i.natAbs < 2 ^ 64) (by unfold s64; omega)
def fMul := fI2 fun i j => if s64 i ∨ s64 j then some (.int (i * j)) else none
theorem os_mul : OpS K mg (rI CMul fun i j => .int (i * j)) fMul := os_I fun i j d e => by
  split at e
  · rename_i h; cases e; exact ⟨h, fun F => .int _⟩
  · cases e
def fDiv := fI2 fun i j => if j ≠ 0 ∧ j.natAbs < 1073741824 then some (.int (i.fdiv j)) else none
theorem os_div : OpS K mg (rI CDivN fun i j => .int (i.fdiv j)) fDiv := os_I fun i j d e => by
  split at e
  · rename_i h; cases e; exact ⟨h, fun F => .int _⟩
  · cases e
def fMod := fI2 fun i j => if j ≠ 0 then some (.int (i.fmod j)) else none
theorem os_mod : OpS K mg (rI (fun _ j => j ≠ 0) fun i j => .int (i.fmod j)) fMod := os_I fun i j d e => by
  split at e
  · rename_i h; cases e; exact ⟨h, fun F => .int _⟩
  · cases e
def fPow := fI2 fun i j => if 0 ≤ j ∧ j ≤ 1000000 ∧ i.natAbs < 2 ^ 64 then some (.int (i ^ j.toNat)) else none
theorem os_pow : OpS K mg (rI CPow fun i j => .int (i ^ j.toNat)) fPow := os_I fun i j d e => by
  split at e
  · rename_i h; cases e; exact ⟨h, fun F => .int _⟩
  · cases e
def fLt := fI2 fun i j => some (.bl (decide (i < j)))
def fLe := fI2 fun i j => some (.bl (decide (i ≤ j)))
def fGt := fI2 fun i j => some (.bl (decide (j < i)))
def fGe := fI2 fun i j => some (.bl (decide (j ≤ i)))
theorem os_lt : OpS K mg (rI0 fun i j => .bl (decide (i < j))) fLt := os_I0 fun i j d e F => by cases e; exact .bl _
theorem os_le : OpS K mg (rI0 fun i j => .bl (decide (i ≤ j))) fLe := os_I0 fun i j d e F => by cases e; exact .bl _
theorem os_gt : OpS K mg (rI0 fun i j => .bl (decide (j < i))) fGt := os_I0 fun i j d e F => by cases e; exact .bl _
theorem os_ge : OpS K mg (rI0 fun i j => .bl (decide (j ≤ i))) fGe := os_I0 fun i j d e F => by cases e; exact .bl _
/-- - of a number -/
def fNeg : D → Option D
  | .int i => some (.int (-i))
  | _ => none
theorem us_neg : UnS K mg (rU fun i => .int (-i)) fNeg := by
  intro F H x d1 d Q s v e k
  unfold fNeg at e
  split at e
  · cases e; exact ⟨_, v.int, k _ _ _ (Grow.refl s) (.int _)⟩
  · cases e
/-- is None -/
def isNon : D → Bool
  | .non => true
  | _ => false
theorem vw_non {d : D} {x : V} (v : Vw K mg F H d x) : decide (x = .non) = isNon d := by
  cases d with
  | non => rw [v.non]; rfl
  | bl b => rw [v.bl]; rfl
  | int i => rw [v.int]; rfl
  | str z => rw [v.str]; rfl
  | tup ds => obtain ⟨a, vs, rfl, _⟩ := v.tup; rfl
  | lst ds => obtain ⟨a, vs, rfl, _⟩ := v; rfl
  | dct ds => obtain ⟨a, _, rfl, _⟩ := v; rfl
  | dtt ds => obtain ⟨a, _, rfl, _⟩ := v; rfl
  | ins c fs => obtain ⟨a, _, _, _, _, rfl, _⟩ := v; rfl
  | box d => cases (show Rep K mg F (.box d) x from v)
def fIsN : D → D → Option D
  | d, .non => some (.bl (isNon d))
  | _, _ => none
def fNotN : D → D → Option D
  | d, .non => some (.bl (!isNon d))
  | _, _ => none
theorem os_isN : OpS K mg (fun x y H Q => y = .non ∧ Q (.bl (decide (x = .non))) H) fIsN := by
  intro F H x y d1 d2 d Q s v1 v2 e k
  unfold fIsN at e
  split at e
  · cases e; exact ⟨v2.non, by rw [vw_non v1]; exact k _ _ _ (Grow.refl s) (.bl _)⟩
  · cases e
theorem os_notN : OpS K mg (fun x y H Q => y = .non ∧ Q (.bl (!decide (x = .non))) H) fNotN := by
  intro F H x y d1 d2 d Q s v1 v2 e k
  unfold fNotN at e
  split at e
  · cases e; exact ⟨v2.non, by rw [vw_non v1]; exact k _ _ _ (Grow.refl s) (.bl _)⟩
  · cases e

/-! ### data -/
mutual
def toPy : D → Option PyData
  | .non => some .none
  | .bl b => some (.bool b)
  | .int i => some (.int i)
  | .str x => some (.str x)
  | .tup ds => (toPys ds).map .tuple
  | .lst ds => (toPys ds).map .list
  | _ => none
def toPys : List D → Option (List PyData)
  | [] => some []
  | d :: ds => match toPy d, toPys ds with
    | some p, some ps => some (p :: ps)
    | _, _ => none
end
mutual
theorem toPy_dp (s : Sub F H) : ∀ {d : D} {p : PyData} {v : V}, toPy d = some p → Rep K mg F d v → Dp K H v p
  | .non, _, _, e, .non => by cases e; exact .non
  | .bl b, _, _, e, .bl _ => by cases e; exact .bl b
  | .int i, _, _, e, .int _ => by cases e; exact .int i
  | .str x, _, _, e, .str _ => by cases e; exact .str x
  | .tup ds, _, _, e, .tup h r => by
    unfold toPy at e
    cases q : toPys ds with
    | none => rw [q] at e; cases e
    | some ps => rw [q] at e; cases e; exact .tup (s.sqT h) (toPys_dp s q r)
  | .lst ds, _, _, e, .lst h r => by
    unfold toPy at e
    cases q : toPys ds with
    | none => rw [q] at e; cases e
    | some ps => rw [q] at e; cases e; exact .lst (s.sqL h) (toPys_dp s q r)
  | .dct _, _, _, e, _ => by cases e
  | .dtt _, _, _, e, _ => by cases e
  | .ins _ _, _, _, e, _ => by cases e
  | .box _, _, _, e, _ => by cases e
theorem toPys_dp (s : Sub F H) : ∀ {ds : List D} {ps : List PyData} {vs : List V}, toPys ds = some ps → Reps K mg F ds vs → DpAll K H vs ps
  | _, _, _, e, .nil => by cases e; exact .nil
  | d :: ds, _, _, e, .cons h r => by
    unfold toPys at e
    split at e
    · rename_i p ps e1 e2
      cases e
      exact .cons (toPy_dp s e1 h) (toPys_dp s e2 r)
    · cases e
end
theorem vw_dp (s : Sub F H) {d : D} {p : PyData} {v : V} (e : toPy d = some p) (w : Vw K mg F H d v) : Dp K H v p := by
  cases d with
  | lst ds =>
    obtain ⟨a, vs, rfl, h, r⟩ := w
    unfold toPy at e
    cases q : toPys ds with
    | none => rw [q] at e; cases e
    | some ps => rw [q] at e; cases e; exact .lst h (toPys_dp s q r)
  | dct ds => cases e
  | dtt ds => cases e
  | ins c fs => cases e
  | _ => exact toPy_dp s e w
def eqD (neg : Bool) : D → D → Option D := fun d1 d2 => match toPy d1, toPy d2 with
  | some p, some q => if SeqAt.shaped p = true ∧ SeqAt.shaped q = true then some (.bl (xor neg (PyData.eqv p q))) else none
  | _, _ => none
theorem os_eqD : OpS K mg (rEqD K) (eqD false) := by
  intro F H x y d1 d2 d Q s v1 v2 e k
  unfold eqD at e
  split at e
  · rename_i p q e1 e2
    split at e
    · rename_i hs
      cases e
      exact ⟨p, q, vw_dp s e1 v1, vw_dp s e2 v2, hs.1, hs.2, k (.bl _) F H (Grow.refl s) (by rw [Bool.false_xor]; exact .bl _)⟩
    · cases e
  · cases e
theorem os_neD : OpS K mg (rNeD K) (eqD true) := by
  intro F H x y d1 d2 d Q s v1 v2 e k
  unfold eqD at e
  split at e
  · rename_i p q e1 e2
    split at e
    · rename_i hs
      cases e
      exact ⟨p, q, vw_dp s e1 v1, vw_dp s e2 v2, hs.1, hs.2, k (.bl _) F H (Grow.refl s) (by rw [Bool.true_xor]; exact .bl _)⟩
    · cases e
  · cases e

/-! ### places, slices -/
def fIx : D → D → Option D
  | .tup ds, .int i => atI ds i
  | .lst ds, .int i => atI ds i
  | .str z, .int i => if z.length ≤ sizeLine then (atI z.cps.toList i).map fun c => .str ⟨#[c]⟩ else none
  | _, _ => none
theorem Reps.at {ds : List D} {vs : List V} {i : Int} {d : D} (r : Reps K mg F ds vs) (e : atI ds i = some d) : ∃ v, atI vs i = some v ∧ Rep K mg F d v := by
  unfold atI at e ⊢
  rw [← r.length]
  cases q : ixN ds.length i with
  | none => rw [q] at e; cases e
  | some j =>
    rw [q] at e
    exact r.get e
theorem os_ix : OpS K mg (rIx K) fIx := by
  intro F H x y d1 d2 d Q s v1 v2 e k
  unfold fIx at e
  split at e
  · obtain ⟨a, vs, rfl, h1, r1⟩ := v1.tup
    obtain ⟨v, e1, e2⟩ := r1.at e
    exact .inr (.inl ⟨a, vs, _, v, rfl, v2.int, s.sqT h1, e1, k _ _ _ (Grow.refl s) e2⟩)
  · obtain ⟨a, vs, rfl, h1, r1⟩ := v1
    obtain ⟨v, e1, e2⟩ := r1.at e
    exact .inl ⟨a, vs, _, v, rfl, v2.int, h1, e1, k _ _ _ (Grow.refl s) e2⟩
  · split at e
    · rename_i z i hz
      cases q : atI z.cps.toList i with
      | none => rw [q] at e; cases e
      | some c => rw [q] at e; cases e; exact .inr (.inr ⟨z, i, c, v1.str, v2.int, hz, q, k _ _ _ (Grow.refl s) (.str _)⟩)
    · cases e
  · cases e
end
section
variable {X : Cx} {J : Anc} {W : WX}
theorem ge_ix {a b : Expr} {pos : Pos} {oa ob : MO} {r : R2} {f : D → D → Option D} (hr : IxR X r) (hs : OpS X.K X.mg r f) (ha : PE X a (tO (km X) J W oa)) (hb : PE X b (tO (km X) J W ob)) (hp : PlainIx b) : PE X (.Subscript a b pos) (tE (km X) J W (mOp2 f oa ob)) :=
  peImp (pe_ix hr ha hb hp) fun _ _ _ q => op2_run hs q
/-- a part of a slice -/
def mNoPart : En → Res (Option Int) := fun s => .ok none s
def mPart (m : ME) : En → Res (Option Int) := fun s => (m s).bind fun d s1 => match d with
  | .int i => .ok (some i) s1
  | _ => .bad
def tP (X : Km) (J : Anc) (W : WX) (m : En → Res (Option Int)) : TO := fun σ H Q => tG X J W (PEq (Option Int)) m σ H Q
theorem poImp {e : Option Expr} {t t' : TO} (h : PO X e t) (m : ∀ σ H Q, t' σ H Q → t σ H Q) : PO X e t' := ⟨fun pins s σ H Q I q => h.run pins s σ H Q I (m σ H Q q)⟩
theorem gp_none : PO X none (tP (km X) J W mNoPart) := poImp po_none fun σ H Q ⟨F, A, s, R, q⟩ => GOk.here (P := PEq (Option Int)) R rfl q
theorem gp_some {e : Expr} {m : ME} (h : PE X e (tE (km X) J W m)) : PO X (some e) (tP (km X) J W (mPart m)) := poImp (po_some h) fun σ H Q ⟨F, A, s, R, q⟩ =>
  bindG (P := PRep (km X)) (P' := PEq (Option Int)) R q fun d s1 v F1 H1 A1 S R1 p q1 => by
    split at q1
    · cases p
      exact ⟨_, rfl, GOk.here (P := PEq (Option Int)) R1 rfl q1⟩
    · exact q1.elim
def cutL {α : Type} (xs : List α) (lo hi : Option Int) : List α := (xs.drop (HT.sIx xs.length 0 lo)).take (HT.sIx xs.length xs.length hi - HT.sIx xs.length 0 lo)
theorem Reps.cut {K : PySem.W.Frag} {mg : Str → Option Value} {F : Hp} {ds : List D} {vs : List V} {lo hi : Option Int} (r : Reps K mg F ds vs) : Reps K mg F (cutL ds lo hi) (cutV vs lo hi) := by
  unfold cutL cutV
  rw [← r.length]
  exact (r.drop _).take _
def SlS (K : PySem.W.Frag) (mg : Str → Option Value) (r : V → Option Int → Option Int → Hp → VK → Prop) (f : D → Option Int → Option Int → Option D) : Prop := ∀ (F H : Hp) (x : V) (lo hi : Option Int) (d1 d : D) (Q : VK), Sub F H → Vw K mg F H d1 x → f d1 lo hi = some d →
  (∀ v F' H', Grow F H F' H' → Rep K mg F' d v → Q v H') → r x lo hi H Q
def mSl (f : D → Option Int → Option Int → Option D) (oa : MO) (lo hi : En → Res (Option Int)) : ME := fun s => (oa s).bind fun a s1 => (lo s1).bind fun l s2 => (hi s2).bind fun h s3 => match fill s3 a with
  | some x => ret (f x l h) s3
  | none => .bad
theorem sl_run {σ : L2.St} {H : Hp} {Q : VK} {oa : MO} {lo hi : En → Res (Option Int)} {r : V → Option Int → Option Int → Hp → VK → Prop} {f : D → Option Int → Option Int → Option D} (hs : SlS X.K X.mg r f) : tE (km X) J W (mSl f oa lo hi) σ H Q → tSl r (tO (km X) J W oa) (tP (km X) J W lo) (tP (km X) J W hi) σ H Q := fun ⟨F, A, s, R, q⟩ =>
  bindG (P := A1 (km X) σ) (P' := PRep (km X)) R q fun a s1 x F1 H1 A1 S1 R1 p1 q1 => bindG (P := PEq (Option Int)) (P' := PRep (km X)) R1 q1 fun l s2 l' F2 H2 A2 S2 R2 p2 q2 => bindG (P := PEq (Option Int)) (P' := PRep (km X)) R2 q2 fun h s3 h' F3 H3 A3 S3 R3 p3 q3 => by
    cases p2
    cases p3
    have p1' : Mir.A1 (km X) σ F3 a x := by
      cases p1 with
      | d p => exact .d (p.mono (S2.mono.trans S3.mono))
      | own h => exact .own h
    split at q3
    · rename_i d1 e1
      exact GOk.ret R3 q3 fun d e k => hs F3 H3 x l h d1 d Q R3.sub (R3.fill p1' e1) e k
    · exact q3.elim
theorem ge_sl {e : Expr} {lo hi : Option Expr} {ml mh : En → Res (Option Int)} {oa : MO} {p2 pos : Pos} {r : V → Option Int → Option Int → Hp → VK → Prop} {f : D → Option Int → Option Int → Option D} (hr : SlR X r) (hs : SlS X.K X.mg r f) (he : PE X e (tO (km X) J W oa)) (hl : PO X lo (tP (km X) J W ml)) (hu : PO X hi (tP (km X) J W mh)) :
    PE X (.Subscript e (.Slice lo hi none p2) pos) (tE (km X) J W (mSl f oa ml mh)) := peImp (pe_slice hr he hl hu) fun _ _ _ q => sl_run hs q
def fSl : D → Option Int → Option Int → Option D
  | .tup ds, lo, hi => some (.tup (cutL ds lo hi))
  | .lst ds, lo, hi => some (.lst (cutL ds lo hi))
  | _, _, _ => none
theorem cut_whole {α : Type} {xs : List α} {lo hi : Option Int} (h : HT.sIx xs.length 0 lo = 0 ∧ HT.sIx xs.length xs.length hi = xs.length) : cutL xs lo hi = xs := by
  unfold cutL
  rw [h.1, h.2]; simp
theorem slr_seq : SlR X (fun x lo hi H Q => rSlA X.K x lo hi H Q ∨ rSlL X.K x lo hi H Q) := sl_tupA.or sl_list
theorem ss_seq {K : PySem.W.Frag} {mg : Str → Option Value} : SlS K mg (fun x lo hi H Q => rSlA K x lo hi H Q ∨ rSlL K x lo hi H Q) fSl := by
  intro F H x lo hi d1 d Q s v e k
  unfold fSl at e
  split at e
  · cases e
    obtain ⟨a, vs, rfl, h1, r1⟩ := v.tup
    refine .inl ⟨a, vs, rfl, s.sqT h1, fun w => ?_, fun _ p hp => ?_⟩
    · rw [← r1.length] at w
      rw [cut_whole w] at k
      exact k _ _ _ (Grow.refl s) (.tup h1 r1)
    · exact k _ _ _ (Grow.one s hp) (.tup (.of upd_same) (r1.cut.mono (Grow.one s hp).f))
  · cases e
    obtain ⟨a, vs, rfl, h1, r1⟩ := v
    exact .inr ⟨a, vs, rfl, h1, fun p hp => k _ _ _ (Grow.one s hp) (.lst (.of upd_same) (r1.cut.mono (Grow.one s hp).f))⟩
  · cases e
end

/-! ### built-ins -/
section
variable {X : Cx} {K : PySem.W.Frag} {mg : Str → Option Value} {F H : Hp}
theorem Vws.one {d : D} {vs : List V} (h : Vws K mg F H [d] vs) : ∃ v, vs = [v] ∧ Vw K mg F H d v := by
  cases h with
  | cons h r => cases r; exact ⟨_, rfl, h⟩
theorem Vws.two {d e : D} {vs : List V} (h : Vws K mg F H [d, e] vs) : ∃ v u, vs = [v, u] ∧ Vw K mg F H d v ∧ Vw K mg F H e u := by
  cases h with
  | cons h r =>
    obtain ⟨u, rfl, q⟩ := r.one
    exact ⟨_, _, rfl, h, q⟩
def fLen : List D → Option D
  | [.tup ds] => some (.int ds.length)
  | [.lst ds] => some (.int ds.length)
  | [.str z] => if z.length ≤ sizeLine then some (.int z.length) else none
  | _ => none
theorem cr_len : CallR X (.builtin "len") (fun xs H Q => (∃ p ys, xs = [.ref p] ∧ (SqL X.K H p ys ∨ SqT X.K H p ys) ∧ Q (.int ys.length) H) ∨ ∃ z, xs = [.str z] ∧ z.length ≤ sizeLine ∧ Q (.int z.length) H) := call_len_seq.or call_len_str
theorem fs_len : FnS K mg (fun xs H Q => (∃ p ys, xs = [.ref p] ∧ (SqL K H p ys ∨ SqT K H p ys) ∧ Q (.int ys.length) H) ∨ ∃ z, xs = [.str z] ∧ z.length ≤ sizeLine ∧ Q (.int z.length) H) fLen := by
  intro F H vs ds d Q s v e k
  unfold fLen at e
  split at e
  · cases e
    obtain ⟨x, rfl, w⟩ := v.one
    obtain ⟨a, us, rfl, h1, r1⟩ := w.tup
    exact .inl ⟨a, us, rfl, .inr (s.sqT h1), by rw [← r1.length]; exact k _ _ _ (Grow.refl s) (.int _)⟩
  · cases e
    obtain ⟨x, rfl, w⟩ := v.one
    obtain ⟨a, us, rfl, h1, r1⟩ := w
    exact .inl ⟨a, us, rfl, .inl h1, by rw [← r1.length]; exact k _ _ _ (Grow.refl s) (.int _)⟩
  · split at e
    · rename_i z hz
      cases e
      obtain ⟨x, rfl, w⟩ := v.one
      rw [w.str]
      exact .inr ⟨_, rfl, hz, k _ _ _ (Grow.refl s) (.int _)⟩
    · cases e
  · cases e
/-- list(x) -/
def fList : List D → Option D
  | [.tup ds] => some (.lst ds)
  | [.lst ds] => some (.lst ds)
  | _ => none
theorem ff_list : FnF K mg (fun xs H Q => ∃ p ys, xs = [.ref p] ∧ (SqL K H p ys ∨ SqT K H p ys) ∧ ∀ l, H l = none → Q (.ref l) (upd H l (.lst ys))) fList := by
  intro F H vs ds d Q s v e k
  unfold fList at e
  split at e
  · cases e
    obtain ⟨x, rfl, w⟩ := v.one
    obtain ⟨a, us, rfl, h1, r1⟩ := w.tup
    exact ⟨a, us, rfl, .inr (s.sqT h1), fun p hp => k p _ F H (Grow.refl s) hp ⟨us, rfl, r1⟩⟩
  · cases e
    obtain ⟨x, rfl, w⟩ := v.one
    obtain ⟨a, us, rfl, h1, r1⟩ := w
    exact ⟨a, us, rfl, .inl h1, fun p hp => k p _ F H (Grow.refl s) hp ⟨us, rfl, r1⟩⟩
  · cases e
/-- tuple(x) -/
def fTuple : List D → Option D
  | [.tup ds] => some (.tup ds)
  | [.lst ds] => some (.tup ds)
  | _ => none
theorem fs_tuple : FnS K mg (fun xs H Q => ∃ p ys, xs = [.ref p] ∧ ((SqL K H p ys ∧ ∀ l, H l = none → Q (.ref l) (upd H l (.tup ys))) ∨ (SqT K H p ys ∧ Q (.ref p) H))) fTuple := by
  intro F H vs ds d Q s v e k
  unfold fTuple at e
  split at e
  · cases e
    obtain ⟨x, rfl, w⟩ := v.one
    obtain ⟨a, us, rfl, h1, r1⟩ := w.tup
    exact ⟨a, us, rfl, .inr ⟨s.sqT h1, k _ _ _ (Grow.refl s) (.tup h1 r1)⟩⟩
  · cases e
    obtain ⟨x, rfl, w⟩ := v.one
    obtain ⟨a, us, rfl, h1, r1⟩ := w
    exact ⟨a, us, rfl, .inl ⟨h1, fun p hp => k _ _ _ (Grow.one s hp) (.tup (.of upd_same) (r1.mono (Grow.one s hp).f))⟩⟩
  · cases e
/-- int(x) -/
def fInt : List D → Option D
  | [.int i] => some (.int i)
  | [.bl b] => some (.int (b2i b))
  | _ => none
/-- lists of intsD, of flags -/
def intsD : List D → Option (List Int)
  | [] => some []
  | .int i :: ds => (intsD ds).map (i :: ·)
  | _ => none
def boolsD : List D → Option (List Bool)
  | [] => some []
  | .bl i :: ds => (boolsD ds).map (i :: ·)
  | _ => none
theorem ints_rep : ∀ {ds : List D} {vs : List V} {ns : List Int}, intsD ds = some ns → Reps K mg F ds vs → vs = ns.map V.int
  | [], _, _, e, .nil => by cases e; rfl
  | .int i :: ds, _, _, e, .cons h r => by
    unfold intsD at e
    cases q : intsD ds with
    | none => rw [q] at e; cases e
    | some ns => rw [q] at e; cases e; cases h; rw [ints_rep q r]; rfl
theorem bools_rep : ∀ {ds : List D} {vs : List V} {ns : List Bool}, boolsD ds = some ns → Reps K mg F ds vs → vs = ns.map V.bl
  | [], _, _, e, .nil => by cases e; rfl
  | .bl i :: ds, _, _, e, .cons h r => by
    unfold boolsD at e
    cases q : boolsD ds with
    | none => rw [q] at e; cases e
    | some ns => rw [q] at e; cases e; cases h; rw [bools_rep q r]; rfl
theorem reps_ints : ∀ {ns : List Int}, Reps K mg F (ns.map D.int) (ns.map V.int)
  | [] => .nil
  | n :: ns => .cons (.int n) reps_ints
def fAll : List D → Option D
  | [.lst ds] => (boolsD ds).map fun bs => .bl (bs.all id)
  | _ => none
def fAny : List D → Option D
  | [.lst ds] => (boolsD ds).map fun bs => .bl (bs.any id)
  | _ => none
def fSum : List D → Option D
  | [.lst ds] => (intsD ds).map fun bs => .int bs.sum
  | _ => none
theorem fs_all : FnS K mg (rAll K) fAll := by
  intro F H vs ds d Q s v e k
  unfold fAll at e
  split at e
  · rename_i ds
    cases q : boolsD ds with
    | none => rw [q] at e; cases e
    | some bs =>
      rw [q] at e; cases e
      obtain ⟨x, rfl, w⟩ := v.one
      obtain ⟨a, us, rfl, h1, r1⟩ := w
      have := bools_rep q r1
      subst this
      exact ⟨a, bs, rfl, h1, k _ _ _ (Grow.refl s) (.bl _)⟩
  · cases e
theorem fs_any : FnS K mg (rAny K) fAny := by
  intro F H vs ds d Q s v e k
  unfold fAny at e
  split at e
  · rename_i ds
    cases q : boolsD ds with
    | none => rw [q] at e; cases e
    | some bs =>
      rw [q] at e; cases e
      obtain ⟨x, rfl, w⟩ := v.one
      obtain ⟨a, us, rfl, h1, r1⟩ := w
      have := bools_rep q r1
      subst this
      exact ⟨a, bs, rfl, h1, k _ _ _ (Grow.refl s) (.bl _)⟩
  · cases e
theorem fs_sum : FnS K mg (rSum K) fSum := by
  intro F H vs ds d Q s v e k
  unfold fSum at e
  split at e
  · rename_i ds
    cases q : intsD ds with
    | none => rw [q] at e; cases e
    | some bs =>
      rw [q] at e; cases e
      obtain ⟨x, rfl, w⟩ := v.one
      obtain ⟨a, us, rfl, h1, r1⟩ := w
      have := ints_rep q r1
      subst this
      exact ⟨a, bs, rfl, h1, k _ _ _ (Grow.refl s) (.int _)⟩
  · cases e
end
end Mir
namespace Mir
open PySem PySem.Spec PyProof.Rows L2 RZ

/-! ### what is walked: lists and tuples alike -/
theorem pi_seq {X : Cx} {tg l : Expr} {tl : TE} (hl : PE X l tl) : PI X tg l (fun σ H R => tl σ H fun x H1 => ∃ a, x = .ref a ∧ (((∃ xs, SqL X.K H1 a xs) ∧ R (Itl X.K a) H1) ∨ ((∃ xs, SqT X.K H1 a xs) ∧ R (Itt X.K a) H1))) := by
  refine ⟨fun pins s σ H R I h => ?_⟩
  refine thn (hl.run pins s σ H _ I h) fun v s1 ⟨x, H1, I1, r1, q1⟩ => ?_
  obtain ⟨a, e, ⟨⟨xs, hq⟩, q⟩ | ⟨⟨xs, hq⟩, q⟩⟩ := q1
  · subst e
    cases r1
    obtain ⟨its, rv, p, hz⟩ := I1.list hq
    refine wpAny_pyIter_list p.isList ?_
    refine ⟨s1.heap.objs.size, [s1.heap.objs.size], _, _, H1, rfl, I1.kept (t' := s1.toks) fun b o e => Heap.get?_push_of_some _ e, turn_list a _, ⟨_, Heap.get?_push_size _ rfl, rfl, rfl⟩, fun b hb => ?_, q⟩
    have e : b = s1.heap.objs.size := by simpa using hb
    subst e
    exact I1.fpOk (Nat.le_refl _) (I1.hok.fresh (Nat.le_refl _))
  · subst e
    cases r1
    obtain ⟨its, rv, p, hz⟩ := I1.tuple hq
    refine wpAny_pyIter_tuple (show s1.heap.IsTuple a its.toArray from p) ?_
    refine ⟨s1.heap.objs.size, [s1.heap.objs.size], _, _, H1, rfl, I1.kept (t' := s1.toks) fun b o e => Heap.get?_push_of_some _ e, turn_tuple a _, ⟨_, Heap.get?_push_size _ rfl, rfl, rfl⟩, fun b hb => ?_, q⟩
    have e : b = s1.heap.objs.size := by simpa using hb
    subst e
    exact I1.fpOk (Nat.le_refl _) (I1.hok.fresh (Nat.le_refl _))
section
variable {X : Cx} {J : Anc} {W : WX} {K : PySem.W.Frag} {F H : Hp}
theorem yields_list {a : Addr} {vs : List V} {ds : List D} (h : SqL X.K F a vs) (r : Reps X.K X.mg F ds vs) : Yields (km X) (Itl X.K a) ds F := by
  have hl := r.length
  refine ⟨fun H => SqL X.K H a vs, YAt vs, hl ▸ walk_list, fun F' H' s1 s2 => ((s1.trans s2).sqL h), fun i H v H' F' d e s1 s2 y => ?_⟩
  obtain ⟨rfl, y⟩ := y
  obtain ⟨v', q1, q2⟩ := r.get e
  rw [y] at q1; cases q1
  exact ⟨F', Grow.refl s2, q2.mono s1⟩
theorem yields_tup {a : Addr} {vs : List V} {ds : List D} (h : SqT X.K F a vs) (r : Reps X.K X.mg F ds vs) : Yields (km X) (Itt X.K a) ds F := by
  have hl := r.length
  refine ⟨fun H => SqT X.K H a vs, YAt vs, hl ▸ walk_tup, fun F' H' s1 s2 => (s1.trans s2).sqT h, fun i H v H' F' d e s1 s2 y => ?_⟩
  obtain ⟨rfl, y⟩ := y
  obtain ⟨v', q1, q2⟩ := r.get e
  rw [y] at q1; cases q1
  exact ⟨F', Grow.refl s2, q2.mono s1⟩
/-- for x in e -/
def iSeq (m : ME) : En → Res (List D) := fun s => (m s).bind fun d s1 => match d with
  | .tup ds => .ok ds s1
  | .lst ds => .ok ds s1
  | _ => .bad
theorem bindI {α β : Type} {P : Hp → α → β → Prop} {m : En → Res α} {k : α → En → Res (List D)} {σ : L2.St} {A : Addr → Prop} {s : En} {R0 : It → Hp → Prop} {T : β → Hp → Prop} (R : Rel (km X) J F H s σ A) (h : match (m s).bind k with
    | .ok ds s1 => ∀ (j : It) (F1 H1 : Hp) (A1 : Addr → Prop), Stp A F H A1 F1 H1 → Rel (km X) J F1 H1 s1 σ A1 → Yields (km X) j ds F1 → R0 j H1
    | .ex c fs s1 => ∀ (cls : Value) (dx : Option Addr) (F1 H1 : Hp) (A1 : Addr → Prop), Stp A F H A1 F1 H1 → Rel (km X) J F1 H1 s1 σ A1 → Exc (km X) A1 F1 H1 c fs cls dx → W cls dx σ H1
    | .bad => False)
    (hk : ∀ (a : α) (s1 : En) (b : β) (F1 H1 : Hp) (A1 : Addr → Prop), Rel (km X) J F1 H1 s1 σ A1 → P F1 a b → (match k a s1 with
      | .ok ds s2 => ∀ (j : It) (F2 H2 : Hp) (A2 : Addr → Prop), Stp A1 F1 H1 A2 F2 H2 → Rel (km X) J F2 H2 s2 σ A2 → Yields (km X) j ds F2 → R0 j H2
      | .ex c fs s2 => ∀ (cls : Value) (dx : Option Addr) (F2 H2 : Hp) (A2 : Addr → Prop), Stp A1 F1 H1 A2 F2 H2 → Rel (km X) J F2 H2 s2 σ A2 → Exc (km X) A2 F2 H2 c fs cls dx → W cls dx σ H2
      | .bad => False) → T b H1) : tG (km X) J W P m σ H T := by
  refine ⟨F, A, s, R, ?_⟩
  cases e : m s with
  | ok a s1 =>
    rw [e] at h
    intro b F1 H1 A1 S R1 p
    refine hk a s1 b F1 H1 A1 R1 p ?_
    have h' : match k a s1 with
      | .ok ds s1 => ∀ (j : It) (F1 H1 : Hp) (A1 : Addr → Prop), Stp A F H A1 F1 H1 → Rel (km X) J F1 H1 s1 σ A1 → Yields (km X) j ds F1 → R0 j H1
      | .ex c fs s1 => ∀ (cls : Value) (dx : Option Addr) (F1 H1 : Hp) (A1 : Addr → Prop), Stp A F H A1 F1 H1 → Rel (km X) J F1 H1 s1 σ A1 → Exc (km X) A1 F1 H1 c fs cls dx → W cls dx σ H1
      | .bad => False := h
    cases ek : k a s1 with
    | ok ds s2 => rw [ek] at h'; exact fun j F2 H2 A2 S2 => h' j F2 H2 A2 (S.trans S2)
    | ex c fs s2 => rw [ek] at h'; exact fun cls dx F2 H2 A2 S2 => h' cls dx F2 H2 A2 (S.trans S2)
    | bad => rw [ek] at h'; exact h'
  | ex c fs s1 => rw [e] at h; exact h
  | bad => rw [e] at h; exact h
theorem gi_seq {tg e : Expr} {m : ME} (h : PE X e (tE (km X) J W m)) : PI X tg e (tI (km X) J W (iSeq m)) := piImp (pi_seq h) fun σ H R0 ⟨F, A, s, R, q⟩ =>
  bindI (P := PRep (km X)) R q fun d s1 v F1 H1 A1 R1 p q1 => by
    cases d with
    | tup ds =>
      cases p with
      | tup h1 r => exact ⟨_, rfl, .inr ⟨⟨_, R1.sub.sqT h1⟩, q1 _ F1 H1 A1 Stp.refl R1 (yields_tup h1 r)⟩⟩
    | lst ds =>
      cases p with
      | lst h1 r => exact ⟨_, rfl, .inl ⟨⟨_, R1.sub.sqL h1⟩, q1 _ F1 H1 A1 Stp.refl R1 (yields_list h1 r)⟩⟩
    | _ => exact q1.elim
theorem yields_range {lo : Int} {n : Nat} {ds : List D} (hd : ds = (List.range n).map fun (i : Nat) => .int (lo + i)) : Yields (km X) (Itr lo n) ds F := by
  subst hd
  have hl : ((List.range n).map fun (i : Nat) => D.int (lo + i)).length = n := by simp
  refine ⟨fun _ => True, YFn fun i => .int (lo + i), hl.symm ▸ walk_range, fun _ _ _ _ => trivial, fun i H v H' F' d e s1 s2 y => ?_⟩
  obtain ⟨rfl, rfl⟩ := y
  refine ⟨F', Grow.refl s2, ?_⟩
  rw [List.getElem?_map] at e
  cases q : (List.range n)[i]? with
  | none => rw [q] at e; cases e
  | some j =>
    rw [q] at e
    cases e
    obtain ⟨h1, h2⟩ := List.getElem?_eq_some_iff.mp q
    rw [List.getElem_range] at h2
    subst h2
    exact .int _
def rangeD (lo hi : Int) : List D := (List.range (hi - lo).toNat).map fun (i : Nat) => .int (lo + i)
def small62 (i : Int) : Prop := -(2 ^ 62) ≤ i ∧ i < 2 ^ 62
instance (i : Int) : Decidable (small62 i) := decidable_of_iff (i.natAbs < 2 ^ 62 ∨ i = -(2 ^ 62)) (by unfold small62; omega)
def iRange1 (o : MA) : En → Res (List D) := fun s => (o s).bind fun as s1 => match fills s1 as with
  | some [.int j] => if small62 j then .ok (rangeD 0 j) s1 else .bad
  | _ => .bad
def iRange2 (o : MA) : En → Res (List D) := fun s => (o s).bind fun as s1 => match fills s1 as with
  | some [.int i, .int j] => if small62 i ∧ small62 j then .ok (rangeD i j) s1 else .bad
  | _ => .bad
theorem gi_range1 {tg a : Expr} {o : MA} {p pos : Pos} (hg : Gl X "range") (hm : X.mg "range" = none) (ha : PA X [a] (tAr (km X) J W o)) (hs : starEach [a] X.env = [(false, eval a X.env)] := by rfl) : PI X tg (.Call (.Name "range" p) [a] [] pos) (tI (km X) J W (iRange1 o)) :=
  piImp (pi_range1 hg hm ha hs) fun σ H R0 ⟨F, A, s, R, q⟩ => bindI (P := AR (km X) σ) R q fun as s1 vs F1 H1 A1 R1 p q1 => by
    cases e : fills s1 as with
    | none => rw [e] at q1; exact q1.elim
    | some ds =>
      rw [e] at q1
      have w := R1.fills p e
      split at q1
      · rename_i h1
        split at h1
        · rename_i j hj
          simp only [Option.some.injEq] at hj
          subst hj
          split at h1
          · rename_i hs
            cases h1
            obtain ⟨v, rfl, w1⟩ := w.one
            rw [w1.int]
            exact ⟨_, rfl, hs.1, hs.2, q1 _ F1 H1 A1 Stp.refl R1 (yields_range (by unfold rangeD; rw [Int.sub_zero]))⟩
          · cases h1
        · cases h1
      · rename_i h1
        split at h1
        · split at h1 <;> cases h1
        · cases h1
      · exact q1.elim
theorem gi_range2 {tg a b : Expr} {o : MA} {p pos : Pos} (hg : Gl X "range") (hm : X.mg "range" = none) (ha : PA X [a, b] (tAr (km X) J W o)) (hs : starEach [a, b] X.env = [(false, eval a X.env), (false, eval b X.env)] := by rfl) (hs2 : starEach [b] X.env = [(false, eval b X.env)] := by rfl) :
    PI X tg (.Call (.Name "range" p) [a, b] [] pos) (tI (km X) J W (iRange2 o)) :=
  piImp (pi_range2 hg hm ha hs hs2) fun σ H R0 ⟨F, A, s, R, q⟩ => bindI (P := AR (km X) σ) R q fun as s1 vs F1 H1 A1 R1 p q1 => by
    cases e : fills s1 as with
    | none => rw [e] at q1; exact q1.elim
    | some ds =>
      rw [e] at q1
      have w := R1.fills p e
      split at q1
      · rename_i h1
        split at h1
        · rename_i i j hj
          simp only [Option.some.injEq] at hj
          subst hj
          split at h1
          · rename_i hs
            cases h1
            obtain ⟨v, u, rfl, w1, w2⟩ := w.two
            rw [w1.int, w2.int]
            exact ⟨_, _, rfl, ⟨hs.1.1, hs.1.2, hs.2.1, hs.2.2⟩, q1 _ F1 H1 A1 Stp.refl R1 (yields_range rfl)⟩
          · cases h1
        · cases h1
      · rename_i h1
        split at h1
        · split at h1 <;> cases h1
        · cases h1
      · exact q1.elim
end

/-! ### enumerate of a tuple -/
def IttE (K : PySem.W.Frag) (a : Addr) : It :=
  ⟨fun i H => ∃ (xs : List V) (x : V), SqT K H a xs ∧ xs[i]? = some x, fun i H v H' => ∃ T x, v = .ref T ∧ H T = none ∧ H' = upd H T (.tup [.int (i : Nat), x]) ∧ ∀ xs, SqT K H a xs → xs[i]? = some x, fun i H => ∃ xs : List V, SqT K H a xs ∧ xs.length ≤ i⟩
theorem enum_end_tup {prog : Program} {w : World} {A : Around} {E : Value → Shared → Prop} {s : Shared} {e it l : Addr} {i : Nat} {items : Array Value} {old : Value} {Q : Option Value → Shared → Prop} (hh : A.handled = none)
    (he : IsEnum s.heap e it i old) (hit : s.heap.IsTupleIter it l i) (hl : s.heap.IsTuple l items) (hx : items[i]? = none)
    (hQ : ∀ h', Heap.ExtBut it s.heap h' → Q none { s with heap := h' }) : wpAny (model prog w) A (pyNext (.ref e)) Q E s := by
  have hT : s.TypeIs (.ref e) "enumerate" := ⟨_, he, rfl⟩
  unfold pyNext
  refine wpAny_bind (wpAny_attempt (wpAny_callSpecial?_slot (name := Str.ofString "__next__") hT F.slot_enumerate_next
    (wpAny_call_entry F.slot_enumerate_next hT F.entry_enumerate_next ?_ (F.args_enumerate_next_1 _))))
  show wpAny _ _ (field (.ref e) 2 >>= _) _ _ _
  refine wpAny_bind (wpAny_field he rfl (x := .ref it) rfl ?_)
  refine wpAny_bind (wpAny_nextOf_tuple_end hh hit hl hx fun h' x he' hx' => ?_)
  obtain ⟨o, ho, hc⟩ := hx'
  refine wpAny_bind (wpAny_isInstance (T := "StopIteration") (b := true) ⟨o, ho, hc⟩ isSubtype_stop ?_)
  exact wpAny_pure (hQ _ he')
theorem turn_enumT {P : Program} {w : World} {K : PySem.W.Frag} {elts : List Expr} {kk : Nat} {tpos : Pos} (a e it : Addr) (hae : a ≠ e) (hai : a ≠ it) :
    Turn P w K (.Tuple elts kk tpos) (IttE K a) [e, it] e (fun i h => (∃ old, IsEnum h e it ((i : Nat) : Int) old) ∧ h.IsTupleIter it a i ∧ e ≠ it) where
  mem := by simp
  obj := fun i h st b hb => by
    obtain ⟨⟨old, he⟩, ⟨o, ho, hc, hd⟩, _⟩ := st
    have e' : b = e ∨ b = it := by simpa using hb
    rcases e' with z | z
    · rw [z]; exact ⟨_, he, fun v q => nomatch q⟩
    · rw [z]; exact ⟨o, ho, fun v q => by rw [hd] at q; cases q⟩
  keep := fun i h h' st k => let ⟨⟨old, he⟩, hi, hne⟩ := st; ⟨⟨old, k e (by simp) _ he⟩, hi.at fun o q => k it (by simp) o q, hne⟩
  item := by
    intro X hP hw hK hc i pins s σ H E I hf st hg
    subst hP hw hK
    obtain ⟨⟨old, he⟩, hit, hne⟩ := st
    obtain ⟨xs, x, hq, hx⟩ := hg
    obtain ⟨its, rv, p, hz⟩ := I.tuple hq
    obtain ⟨u, hu, ru⟩ := rv.get hx
    have hel : e < s.heap.objs.size := Heap.lt_size he
    have hil : it < s.heap.objs.size := by obtain ⟨_, q, _⟩ := hit; exact Heap.lt_size q
    have D := Draws.tuple (prog := X.prog) (w := X.w) (A := X.A.in1) (show X.A.in1.handled = none from I.ok.hd hc) it a hai its.toArray
    have hi : i < its.toArray.size := by
      have := (List.getElem?_eq_some_iff.mp hu).1
      simpa using this
    have hef : e ∉ [it, a] := by
      intro z
      have z' : e = it ∨ e = a := by simpa using z
      rcases z' with z | z
      · exact hne z
      · exact hae z.symm
    refine wpAny_pyNext_enum_itemC D he ⟨hit, p⟩ hi hne hef fun x' h' tk hP ho hs' hT hsz hk => ?_
    have ex : x' = u := by
      have hu' : its.toArray[i]? = some u := by simpa using hu
      rw [hu'] at hP; exact (Option.some.inj hP).symm
    subst ex
    refine ⟨_, rfl, wpAny_letOwnedTupleGo_enum (s := { s with heap := h', toks := tk + 1 }) ho fun h'' he' sb => ?_⟩
    have hT2 : h''.get? s.heap.objs.size = some { cls := .type "tuple", data := .seq #[.int i tk, x'] } := (sb.2 _ (Nat.ne_of_gt hel)).trans hT
    have new : ObjOk X.prog X.w (upd H s.heap.objs.size (.tup [.int (i : Nat), x])) h'' s.heap.objs.size (.tup [.int (i : Nat), x]) :=
      ⟨by show 2 ≤ sizeLine; decide, [.int i tk, x'], .cons ⟨_, rfl⟩ (.cons ru .nil), ⟨_, hT2, rfl, _, rfl⟩⟩
    have I1 : Inv X pins σ (upd H s.heap.objs.size (.tup [.int (i : Nat), x])) { s with heap := h'', toks := tk + 1 } :=
      I.turnedNew (ch := [e, it]) (fun b ob hb q => (sb.2 b (fun z => hb (by simp [z]))).trans (hk b ob (fun z => hb (by simp [z])) (fun z => hb (by simp [z])) q)) hf (Nat.le_refl _) new
    refine ⟨.ref s.heap.objs.size, _, I1, rfl, ⟨_, x, rfl, I.hok.fresh (Nat.le_refl _), rfl, fun ys hy => by rw [I.tuple_inj hy hq]; exact hx⟩, ⟨⟨x', ?_⟩, hs'.1.at fun o q => (sb.2 it (Ne.symm hne)).trans q, hne⟩, fun b hb => ?_⟩
    · have e1 : ((i + 1 : Nat) : Int) = (i : Int) + 1 := by omega
      rw [e1]; exact he'
    · have hb' : b < s.heap.objs.size := by
        have e' : b = e ∨ b = it := by simpa using hb
        rcases e' with z | z
        · rw [z]; exact hel
        · rw [z]; exact hil
      rw [upd_ne (Nat.ne_of_lt hb')]
      exact (hf b hb).1
  done := by
    intro X hP hw hK hc i pins s σ H E I hf st hg
    subst hP hw hK
    obtain ⟨⟨old, he⟩, hit, hne⟩ := st
    obtain ⟨xs, hq, hx⟩ := hg
    obtain ⟨its, rv, p, hz⟩ := I.tuple hq
    obtain ⟨f0, f1, f2, f3, f4, f5⟩ := hf it (by simp)
    have hl := rv.length
    exact enum_end_tup (I.ok.hd hc) he hit p (by simp; omega) fun h' eb => ⟨rfl, I.turned (t' := s.toks) (fun b o hb q => eb b o hb q) f0 f1 f3 f4 f5⟩
  self := fun A i s Q E st h => let ⟨⟨_, he⟩, _⟩ := st; wpAny_pyIter_enum he h

theorem meets_enumerate_new1 {v : Value} {o : Obj} {H : Heap → Prop} (B : Begins v o H) :
    Meets (Builtin.«enumerate.__new__» ⟨[.type "enumerate", v], []⟩) (fun _ R s => H s.heap ∧
      R (.ok (.ret (.ref (s.heap.push o).objs.size))) { s with heap := (s.heap.push o).push { cls := .type "enumerate", data := .fields #[.none, .bool false, .ref s.heap.objs.size, rawInt 0, .none, .none] } }) :=
  .of_wp fun prog w A R s h => by
    obtain ⟨hp, g, d, tk, os⟩ := s; obtain ⟨h1, h⟩ := h
    have hsub := sub_enumerate
    have q1 : ∀ {A' : Around} {E : Value → Shared → Prop} {Q : Value → Shared → Prop}, Q (.ref hp.objs.size) ⟨hp.push o, g, d, tk, os⟩ → wpAny (model prog w) A' (pyIter v) Q E ⟨hp, g, d, tk, os⟩ :=
      fun q => B.iter prog w _ _ ⟨hp, g, d, tk, os⟩ _ h1 q
    wp_walk using q1
    refine wpAny_stack_any fun st => wpAny_pure ?_
    split
    · rename_i c _ _ _ _ _
      cases (c == Value.type "enumerate")
      · wp_walk using q1
        exact ⟨_, rfl, h⟩
      · wp_walk using q1
        exact ⟨_, rfl, h⟩
    · wp_walk using q1
      exact ⟨_, rfl, h⟩
theorem enum_begins1 {prog : Program} {w : World} {A : Around} {E : Value → Shared → Prop} {s : Shared} {v : Value} {o : Obj} {H : Heap → Prop} {Q : Value → Shared → Prop} (B : Begins v o H) (h1 : H s.heap)
    (h : ∀ h', IsEnum h' (s.heap.objs.size + 1) s.heap.objs.size 0 .none → h'.get? s.heap.objs.size = some o → h'.objs.size = s.heap.objs.size + 2 →
      (∀ b o, s.heap.get? b = some o → h'.get? b = some o) → Q (.ref (s.heap.objs.size + 1)) { s with heap := h' }) :
    wpAny (model prog w) A (call (.type "enumerate") [v]) Q E s := by
  refine callType_new F.called_enumerate (by decide) (F.typeCall_enumerate_1 _) (F.newCall_enumerate_1 _) (fun obj => F.args_object_init_2 obj _) F.entry_enumerate_new
    (meets_enumerate_new1 B) ⟨h1, ?_⟩
  have hz : (s.heap.push o).objs.size = s.heap.objs.size + 1 := Heap.size_push ..
  show _ ∧ _
  rw [hz]
  have he : IsEnum ((s.heap.push o).push { cls := .type "enumerate", data := .fields #[.none, .bool false, .ref s.heap.objs.size, rawInt 0, .none, .none] }) (s.heap.objs.size + 1) s.heap.objs.size 0 .none := by
    have := Heap.get?_push_size (s.heap.push o) (o := { cls := .type "enumerate", data := .fields #[.none, .bool false, .ref s.heap.objs.size, rawInt 0, .none, .none] }) rfl
    rw [hz] at this; exact this
  refine ⟨⟨_, he, rfl⟩, h _ he (Heap.get?_push_of_some _ (Heap.get?_push_size _ B.free)) (by rw [Heap.size_push, hz]) fun b o x => Heap.get?_push_of_some _ (Heap.get?_push_of_some _ x)⟩
def iEnumA (K : PySem.W.Frag) (ta : TA) : TI := fun σ H R => ta σ H fun vs H1 => ∃ a xs, vs = [.ref a] ∧ ((SqL K H1 a xs ∧ R (Ite K a) H1) ∨ (SqT K H1 a xs ∧ R (IttE K a) H1))
theorem pi_enumA {X : Cx} {e : Expr} {ta : TA} {p pos tpos : Pos} {elts : List Expr} {kk : Nat} (hg : Gl X "enumerate") (hm : X.mg "enumerate" = none) (ha : PA X [e] ta) (hs : starEach [e] X.env = [(false, eval e X.env)] := by rfl) :
    PI X (.Tuple elts kk tpos) (.Call (.Name "enumerate" p) [e] [] pos) (iEnumA X.K ta) := by
  refine ⟨fun pins s σ H R I h => ?_⟩
  refine Call_ (ld_blt I hg hm boot_enumerate (PyProof.Rows.callWith_type1 (thn (ha.run pos pins s σ H _ I h) fun us s1 ⟨vs, H1, I1, r1, q1⟩ => ?_) hs rfl))
  obtain ⟨a, xs, ex, ⟨hq, q⟩ | ⟨hq, q⟩⟩ := q1
  · subst ex
    cases r1 with
    | cons r rr =>
      cases rr
      cases r
      obtain ⟨its, rv, p', hz⟩ := I1.list hq
      refine call_enumerate_list p'.isList fun h' he hit hsz hk => wpAny_pyIter_enum he ?_
      have I2 : Inv X pins σ H1 { s1 with heap := h' } := I1.kept (t' := s1.toks) hk
      refine ⟨s1.heap.objs.size + 1, [s1.heap.objs.size + 1, s1.heap.objs.size], _, _, H1, rfl, I2, turn_enum a (s1.heap.objs.size + 1) s1.heap.objs.size, ⟨⟨.none, he⟩, hit, Nat.succ_ne_self _⟩, fun b hb => ?_, q⟩
      have e' : b = s1.heap.objs.size + 1 ∨ b = s1.heap.objs.size := by simpa using hb
      have hle : s1.heap.objs.size ≤ b := by
        rcases e' with z | z
        · rw [z]; exact Nat.le_add_right _ _
        · rw [z]; exact Nat.le_refl _
      exact I1.fpOk hle (I1.hok.fresh hle)
  · subst ex
    cases r1 with
    | cons r rr =>
      cases rr
      cases r
      obtain ⟨its, rv, p', hz⟩ := I1.tuple hq
      have hal : a < s1.heap.objs.size := p'.lt
      refine enum_begins1 (begins_tuple a its.toArray) p' fun h' he ho hsz hk => wpAny_pyIter_enum he ?_
      have I2 : Inv X pins σ H1 { s1 with heap := h' } := I1.kept (t' := s1.toks) hk
      refine ⟨s1.heap.objs.size + 1, [s1.heap.objs.size + 1, s1.heap.objs.size], _, _, H1, rfl, I2, turn_enumT a (s1.heap.objs.size + 1) s1.heap.objs.size (Nat.ne_of_lt (Nat.lt_succ_of_lt hal)) (Nat.ne_of_lt hal), ⟨⟨.none, he⟩, ⟨_, ho, rfl, rfl⟩, Nat.succ_ne_self _⟩, fun b hb => ?_, q⟩
      have e' : b = s1.heap.objs.size + 1 ∨ b = s1.heap.objs.size := by simpa using hb
      have hle : s1.heap.objs.size ≤ b := by
        rcases e' with z | z
        · rw [z]; exact Nat.le_add_right _ _
        · rw [z]; exact Nat.le_refl _
      exact I1.fpOk hle (I1.hok.fresh hle)
theorem walk_enumT {K : PySem.W.Frag} {a : Addr} {xs : List V} : Walk (IttE K a) xs.length (fun H => SqT K H a xs) (YPair (fun i => some (.int (i : Nat))) (fun i => xs[i]?)) := by
  refine ⟨fun i _ hi q => ⟨xs, xs[i], q, by simp [hi]⟩, fun _ q => ⟨xs, q, Nat.le_refl _⟩, fun i H v H' _ q y => ?_⟩
  obtain ⟨T, x, h1, h2, h3, h4⟩ := y
  exact ⟨T, .int (i : Nat), x, h1, h2, h3, rfl, h4 xs q⟩
def enumD : Nat → List D → List D
  | _, [] => []
  | n, d :: ds => .tup [.int n, d] :: enumD (n + 1) ds
theorem enumD_length : ∀ {n : Nat} {ds : List D}, (enumD n ds).length = ds.length
  | _, [] => rfl
  | n, d :: ds => congrArg Nat.succ (enumD_length (n := n + 1) (ds := ds))
theorem enumD_get : ∀ {n : Nat} {ds : List D} {i : Nat} {d : D}, (enumD n ds)[i]? = some d → ∃ x, ds[i]? = some x ∧ d = .tup [.int (n + i : Nat), x]
  | n, [], i, d, h => by simp [enumD] at h
  | n, x :: ds, 0, d, h => by simp [enumD] at h; exact ⟨x, rfl, h.symm⟩
  | n, x :: ds, i + 1, d, h => by
    obtain ⟨y, h1, h2⟩ := enumD_get (n := n + 1) (ds := ds) (i := i) (by simpa [enumD] using h)
    refine ⟨y, by simpa using h1, ?_⟩
    rw [h2]
    have : n + 1 + i = n + (i + 1) := by omega
    rw [this]
section
variable {X : Cx} {J : Anc} {W : WX} {K : PySem.W.Frag} {F H : Hp}
/-- new pairs of the i-th of two rows -/
theorem yields_pair {j : It} {n : Nat} {G : Hp → Prop} {f g : Nat → Option V} {ds : List D} (w : Walk j n G (YPair f g)) (hn : n = ds.length) (hG : ∀ F' H', Sub F F' → Sub F' H' → G H')
    (hd : ∀ i d x y, ds[i]? = some d → f i = some x → g i = some y → ∃ d1 d2, d = .tup [d1, d2] ∧ Rep X.K X.mg F d1 x ∧ Rep X.K X.mg F d2 y) : Yields (km X) j ds F := by
  subst hn
  refine ⟨G, _, w, hG, fun i H v H' F' d e s1 s2 y => ?_⟩
  obtain ⟨T, x, z, rfl, hT, rfl, h1, h2⟩ := y
  obtain ⟨d1, d2, rfl, r1, r2⟩ := hd i d x z e h1 h2
  refine ⟨upd F' T (.tup [x, z]), Grow.one s2 hT, ?_⟩
  have sF := (Grow.one (o := .tup [x, z]) s2 hT).f
  exact .tup (.of upd_same) (.cons (r1.mono (s1.trans sF)) (.cons (r2.mono (s1.trans sF)) .nil))
def iEnumD (o : MA) : En → Res (List D) := fun s => (o s).bind fun as s1 => match frzs as with
  | some [.tup ds] => .ok (enumD 0 ds) s1
  | some [.lst ds] => .ok (enumD 0 ds) s1
  | _ => .bad
theorem gi_enum {a : Expr} {o : MA} {p pos tpos : Pos} {elts : List Expr} {kk : Nat} (hg : Gl X "enumerate") (hm : X.mg "enumerate" = none) (ha : PA X [a] (tAr (km X) J W o)) (hs : starEach [a] X.env = [(false, eval a X.env)] := by rfl) : PI X (.Tuple elts kk tpos) (.Call (.Name "enumerate" p) [a] [] pos) (tI (km X) J W (iEnumD o)) :=
  piImp (pi_enumA hg hm ha hs) fun σ H R0 ⟨F, A, s, R, q⟩ => bindI (P := AR (km X) σ) R q fun as s1 vs F1 H1 A1 R1 p q1 => by
    have key : ∀ {vs : List V} {ds : List D}, Reps X.K X.mg F1 ds vs → ∀ i d x y, (enumD 0 ds)[i]? = some d → some (V.int (i : Nat)) = some x → vs[i]? = some y → ∃ d1 d2, d = .tup [d1, d2] ∧ Rep X.K X.mg F1 d1 x ∧ Rep X.K X.mg F1 d2 y := fun {vs ds} r i d x y e h1 h2 => by
      obtain ⟨z, e1, rfl⟩ := enumD_get e
      cases h1
      obtain ⟨v, e2, e3⟩ := r.get e1
      rw [h2] at e2; cases e2
      exact ⟨_, _, rfl, by rw [Nat.zero_add]; exact .int _, e3⟩
    cases e : frzs as with
    | none => rw [e] at q1; exact q1.elim
    | some ds =>
      rw [e] at q1
      have w := frzs_rep p e
      match ds, w, q1 with
      | [.tup ds], .cons (.tup h1 r) .nil, q1 => exact ⟨_, _, rfl, .inr ⟨R1.sub.sqT h1, q1 _ F1 H1 A1 Stp.refl R1 (yields_pair walk_enumT (by rw [enumD_length, r.length]) (fun F' H' s1 s2 => (s1.trans s2).sqT h1) (key r))⟩⟩
      | [.lst ds], .cons (.lst h1 r) .nil, q1 => exact ⟨_, _, rfl, .inl ⟨(R1.sub.sqL h1), q1 _ F1 H1 A1 Stp.refl R1 (yields_pair walk_enum (by rw [enumD_length, r.length]) (fun F' H' s1 s2 => ((s1.trans s2).sqL h1)) (key r))⟩⟩
      | [], _, q1 => exact q1.elim
      | [.non], _, q1 => exact q1.elim
      | [.bl _], _, q1 => exact q1.elim
      | [.int _], _, q1 => exact q1.elim
      | [.str _], _, q1 => exact q1.elim
      | [.dct _], _, q1 => exact q1.elim
      | [.dtt _], _, q1 => exact q1.elim
      | [.ins _ _], _, q1 => exact q1.elim
      | [.box _], _, q1 => exact q1.elim
      | a :: b :: r, _, q1 => cases a <;> exact q1.elim
/-- zip of two tuples, of two lists -/
def zipD : List D → List D → List D
  | x :: xs, y :: ys => .tup [x, y] :: zipD xs ys
  | _, _ => []
theorem zipD_length : ∀ {xs ys : List D}, (zipD xs ys).length = min xs.length ys.length
  | [], ys => by simp [zipD]
  | x :: xs, [] => by simp [zipD]
  | x :: xs, y :: ys => by simp [zipD, zipD_length (xs := xs) (ys := ys)]
theorem zipD_get : ∀ {xs ys : List D} {i : Nat} {d : D}, (zipD xs ys)[i]? = some d → ∃ x y, xs[i]? = some x ∧ ys[i]? = some y ∧ d = .tup [x, y]
  | [], ys, i, d, h => by simp [zipD] at h
  | x :: xs, [], i, d, h => by simp [zipD] at h
  | x :: xs, y :: ys, 0, d, h => by simp [zipD] at h; exact ⟨x, y, rfl, rfl, h.symm⟩
  | x :: xs, y :: ys, i + 1, d, h => by
    obtain ⟨a, b, h1, h2, h3⟩ := zipD_get (xs := xs) (ys := ys) (i := i) (by simpa [zipD] using h)
    exact ⟨a, b, by simpa using h1, by simpa using h2, h3⟩
def iZipD (o : MA) : En → Res (List D) := fun s => (o s).bind fun as s1 => match frzs as with
  | some [.tup xs, .tup ys] => .ok (zipD xs ys) s1
  | some [.lst xs, .lst ys] => .ok (zipD xs ys) s1
  | _ => .bad
theorem walk_zipT {a b : Addr} {xs ys : List V} {n : Nat} (hn : n = min xs.length ys.length) : Walk (ItzT K a b) n (fun H => SqT K H a xs ∧ SqT K H b ys) (YPair (fun i => xs[i]?) (fun i => ys[i]?)) := by
  subst hn
  refine ⟨fun i _ hi q => ?_, fun _ q => ⟨xs, ys, q.1, q.2, by omega⟩, fun i H v H' _ q y => ?_⟩
  · have h1 : i < xs.length := by omega
    have h2 : i < ys.length := by omega
    exact ⟨xs, ys, xs[i], ys[i], q.1, q.2, by simp [h1], by simp [h2]⟩
  · obtain ⟨T, x, z, h1, h2, h3, h4, h5⟩ := y
    exact ⟨T, x, z, h1, h2, h3, h4 xs q.1, h5 ys q.2⟩
theorem gi_zip {a b : Expr} {o : MA} {p pos tpos : Pos} {elts : List Expr} {kk : Nat} (hg : Gl X "zip") (hm : X.mg "zip" = none) (ha : PA X [a, b] (tAr (km X) J W o)) (hs : starEach [a, b] X.env = (false, eval a X.env) :: starEach [b] X.env := by rfl) (hpl : (backTo pos (starEach [b] X.env)).any (·.1) = false := by rfl) : PI X (.Tuple elts kk tpos) (.Call (.Name "zip" p) [a, b] [] pos) (tI (km X) J W (iZipD o)) :=
  piImp (pi_zipA hg hm ha hs hpl) fun σ H R0 ⟨F, A, s, R, q⟩ => bindI (P := AR (km X) σ) R q fun as s1 vs F1 H1 A1 R1 p q1 => by
    have key : ∀ {us vs : List V} {xs ys : List D}, Reps X.K X.mg F1 xs us → Reps X.K X.mg F1 ys vs → ∀ (i : Nat) (d : D) (x y : V), (zipD xs ys)[i]? = some d → us[i]? = some x → vs[i]? = some y → ∃ d1 d2, d = .tup [d1, d2] ∧ Rep X.K X.mg F1 d1 x ∧ Rep X.K X.mg F1 d2 y := fun {us vs xs ys} r r' i d x y e h1 h2 => by
      obtain ⟨z, t, e1, e2, rfl⟩ := zipD_get e
      obtain ⟨v, e3, e4⟩ := r.get e1
      rw [h1] at e3; cases e3
      obtain ⟨v', e5, e6⟩ := r'.get e2
      rw [h2] at e5; cases e5
      exact ⟨_, _, rfl, e4, e6⟩
    cases e : frzs as with
    | none => rw [e] at q1; exact q1.elim
    | some ds =>
      rw [e] at q1
      have w := frzs_rep p e
      match ds, w, q1 with
      | [.tup xs, .tup ys], .cons (.tup h1 r1) (.cons (.tup h2 r2) .nil), q1 =>
        exact ⟨_, _, _, _, rfl, .inr ⟨R1.sub.sqT h1, R1.sub.sqT h2, q1 _ F1 H1 A1 Stp.refl R1 (yields_pair (walk_zipT (by rw [r1.length.symm, r2.length.symm])) (by rw [zipD_length, r1.length, r2.length]) (fun F' H' s1 s2 => ⟨(s1.trans s2).sqT h1, (s1.trans s2).sqT h2⟩) (key r1 r2))⟩⟩
      | [.lst xs, .lst ys], .cons (.lst h1 r1) (.cons (.lst h2 r2) .nil), q1 =>
        exact ⟨_, _, _, _, rfl, .inl ⟨(R1.sub.sqL h1), (R1.sub.sqL h2), q1 _ F1 H1 A1 Stp.refl R1 (yields_pair (walk_zip (by rw [r1.length.symm, r2.length.symm])) (by rw [zipD_length, r1.length, r2.length]) (fun F' H' s1 s2 => ⟨((s1.trans s2).sqL h1), ((s1.trans s2).sqL h2)⟩) (key r1 r2))⟩⟩
      | [], _, q1 => exact q1.elim
      | [a], _, q1 => cases a <;> exact q1.elim
      | a :: b :: c :: r, _, q1 => cases a <;> cases b <;> exact q1.elim
      | [.non, _], _, q1 => exact q1.elim
      | [.bl _, _], _, q1 => exact q1.elim
      | [.int _, _], _, q1 => exact q1.elim
      | [.str _, _], _, q1 => exact q1.elim
      | [.dct _, _], _, q1 => exact q1.elim
      | [.dtt _, _], _, q1 => exact q1.elim
      | [.ins _ _, _], _, q1 => exact q1.elim
      | [.box _, _], _, q1 => exact q1.elim
      | [.tup _, .non], _, q1 => exact q1.elim
      | [.tup _, .bl _], _, q1 => exact q1.elim
      | [.tup _, .int _], _, q1 => exact q1.elim
      | [.tup _, .str _], _, q1 => exact q1.elim
      | [.tup _, .lst _], _, q1 => exact q1.elim
      | [.tup _, .dct _], _, q1 => exact q1.elim
      | [.tup _, .dtt _], _, q1 => exact q1.elim
      | [.tup _, .ins _ _], _, q1 => exact q1.elim
      | [.tup _, .box _], _, q1 => exact q1.elim
      | [.lst _, .non], _, q1 => exact q1.elim
      | [.lst _, .bl _], _, q1 => exact q1.elim
      | [.lst _, .int _], _, q1 => exact q1.elim
      | [.lst _, .str _], _, q1 => exact q1.elim
      | [.lst _, .tup _], _, q1 => exact q1.elim
      | [.lst _, .dct _], _, q1 => exact q1.elim
      | [.lst _, .dtt _], _, q1 => exact q1.elim
      | [.lst _, .ins _ _], _, q1 => exact q1.elim
      | [.lst _, .box _], _, q1 => exact q1.elim
end
end Mir
namespace Mir
open PySem PySem.Spec PyProof.Rows L2

/-! ### comprehensions -/
def wipeD (s : En) : List Nat → En
  | [] => s
  | v :: vs => (wipeD s vs).set v .no
/-- the block's own names as they were ahead of it -/
def restD (s0 s : En) : List Nat → En
  | [] => s
  | v :: vs => (restD s0 s vs).set v (match s0[v]? with
    | some (.d d) => .d d
    | _ => .no)
theorem wipeD_length {s : En} : ∀ {vs : List Nat}, (wipeD s vs).length = s.length
  | [] => rfl
  | v :: vs => by unfold wipeD; rw [List.length_set, wipeD_length]
theorem wipeD_get {s : En} {i : Nat} {x : Sl} : ∀ {vs : List Nat}, (wipeD s vs)[i]? = some x → x = .no ∨ (s[i]? = some x ∧ i ∉ vs)
  | [], h => .inr ⟨h, by simp⟩
  | v :: vs, h => by
    unfold wipeD at h
    rcases getD_set h with ⟨_, _, q⟩ | ⟨n, q⟩
    · exact .inl q
    · exact (wipeD_get q).imp id fun z => ⟨z.1, by simp [n, z.2]⟩
theorem wipe_get_ne {σ : L2.St} {i : Nat} : ∀ {vs : List Nat}, i ∉ vs → (wipe σ vs)[i]? = σ[i]?
  | [], _ => rfl
  | v :: vs, h => by
    unfold wipe
    rw [List.getElem?_set_ne (fun z => h (by simp [z])), wipe_get_ne (fun z => h (by simp [z]))]
theorem wipe_get_mem {σ : L2.St} {i : Nat} : ∀ {vs : List Nat}, i ∈ vs → i < σ.length → (wipe σ vs)[i]? = some none
  | v :: vs, h, hl => by
    unfold wipe
    by_cases e : i = v
    · subst e
      rw [List.getElem?_set_self (by rw [wipe_length]; exact hl)]
    · rw [List.getElem?_set_ne (Ne.symm e)]
      exact wipe_get_mem ((List.mem_cons.mp h).resolve_left e) hl
theorem wipe_eq {σ σ' : L2.St} {vs : List Nat} (hl : σ'.length = σ.length) (h : ∀ j, j ∉ vs → σ'[j]? = σ[j]?) : wipe σ' vs = wipe σ vs := by
  apply List.ext_getElem?
  intro i
  by_cases hi : i ∈ vs
  · by_cases hlt : i < σ.length
    · rw [wipe_get_mem hi hlt, wipe_get_mem hi (by omega)]
    · rw [List.getElem?_eq_none (by rw [wipe_length]; omega), List.getElem?_eq_none (by rw [wipe_length]; omega)]
  · rw [wipe_get_ne hi, wipe_get_ne hi]; exact h i hi
theorem wipe_wipe {σ : L2.St} {vs : List Nat} : wipe (wipe σ vs) vs = wipe σ vs := wipe_eq (wipe_length _ _) fun j hj => wipe_get_ne hj
def OffAll (J : Anc) (vs : List Nat) : Prop := ∀ v ∈ vs, Off J v
section
variable {X : Cx} {J : Anc} {W : WX} {σ : L2.St} {A : Addr → Prop} {F H : Hp} {s : En}
theorem Rel.wipe {vs : List Nat} {σ' : L2.St} (R : Rel (km X) J F H s σ A) (o : OffAll J vs) (hl : σ'.length = σ.length) (h : ∀ j, j ∉ vs → σ'[j]? = σ[j]?) : Rel (km X) J F H (wipeD s vs) σ' A := by
  obtain ⟨fp, h1, h2, h3⟩ := R.lay
  refine ⟨R.sub, fun j e q => ?_, ⟨fp, fun j e q => ?_, h2, h3⟩, R.free, R.there, fun j c fs q => ?_, fun p hp => ?_, by rw [wipeD_length, hl]; exact R.len⟩
  · rcases wipeD_get q with z | ⟨z1, z2⟩
    · cases z
    · obtain ⟨v, q1, q2⟩ := R.frz j e z1
      exact ⟨v, (h j z2).trans q1, q2⟩
  · rcases wipeD_get q with z | ⟨z1, z2⟩
    · cases z
    · obtain ⟨v, q1, q2⟩ := h1 j e z1
      exact ⟨v, (h j z2).trans q1, q2⟩
  · rcases wipeD_get q with z | ⟨z1, z2⟩
    · cases z
    · obtain ⟨a, oe, C, q1, q2⟩ := R.exn j c fs z1
      exact ⟨a, oe, C, (h j z2).trans q1, q2⟩
  · have : p.1 ∉ vs := fun z => o p.1 z p hp rfl
    exact (h p.1 this).trans (R.anch p hp)
theorem restD_length {s0 s : En} : ∀ {vs : List Nat}, (restD s0 s vs).length = s.length
  | [] => rfl
  | v :: vs => by unfold restD; rw [List.length_set, restD_length]
theorem restD_get {s0 s : En} {i : Nat} {x : Sl} : ∀ {vs : List Nat}, (restD s0 s vs)[i]? = some x → x = .no ∨ (s[i]? = some x ∧ i ∉ vs) ∨ (∃ d, x = .d d ∧ s0[i]? = some (.d d) ∧ i ∈ vs)
  | [], h => .inr (.inl ⟨h, by simp⟩)
  | v :: vs, h => by
    unfold restD at h
    rcases getD_set h with ⟨e, _, q⟩ | ⟨n, q⟩
    · split at q
      · rename_i d hd
        exact .inr (.inr ⟨d, q, by rw [e]; exact hd, by simp [e]⟩)
      · exact .inl q
    · rcases restD_get q with z | z | ⟨d, z1, z2, z3⟩
      · exact .inl z
      · exact .inr (.inl ⟨z.1, by simp [n, z.2]⟩)
      · exact .inr (.inr ⟨d, z1, z2, by simp [z3]⟩)
theorem Rel.rest {vs : List Nat} {σ' : L2.St} {s0 : En} {F0 H0 : Hp} {A0 : Addr → Prop} (R : Rel (km X) J F H s σ A) (R0 : Rel (km X) J F0 H0 s0 σ' A0) (sF : Sub F0 F) (hl : σ'.length = σ.length) (h : ∀ j, j ∉ vs → σ'[j]? = σ[j]?) : Rel (km X) J F H (restD s0 s vs) σ' A := by
  obtain ⟨fp, h1, h2, h3⟩ := R.lay
  refine ⟨R.sub, fun j e q => ?_, ⟨fp, fun j e q => ?_, h2, h3⟩, R.free, R.there, fun j c fs q => ?_, R0.anch, by rw [restD_length, hl]; exact R.len⟩
  · rcases restD_get q with z | ⟨z1, z2⟩ | ⟨d, z1, z2, z3⟩
    · cases z
    · obtain ⟨v, q1, q2⟩ := R.frz j e z1
      exact ⟨v, (h j z2).trans q1, q2⟩
    · cases z1
      obtain ⟨v, q1, q2⟩ := R0.frz j _ z2
      exact ⟨v, q1, q2.mono sF⟩
  · rcases restD_get q with z | ⟨z1, z2⟩ | ⟨d, z1, z2, z3⟩
    · cases z
    · obtain ⟨v, q1, q2⟩ := h1 j e z1
      exact ⟨v, (h j z2).trans q1, q2⟩
    · cases z1
  · rcases restD_get q with z | ⟨z1, z2⟩ | ⟨d, z1, z2, z3⟩
    · cases z
    · obtain ⟨a, oe, C, q1, q2⟩ := R.exn j c fs z1
      exact ⟨a, oe, C, (h j z2).trans q1, q2⟩
    · cases z1
/-- a thing that is neither frozen nor owned is changed -/
theorem Rel.upd {p : Addr} {o' : HO} {va : List V} (R : Rel (km X) J F H s σ A) (hp : H p = some (.lst va)) (fp : F p = none) (ap : ¬ A p) : Rel (km X) J F (L2.upd H p o') s σ A := by
  have ne : ∀ a, A a → a ≠ p := fun a ha z => ap (z ▸ ha)
  refine ⟨fun a o h => ?_, R.frz, ?_, R.free, fun a ha => ?_, fun j c fs h => ?_, R.anch, R.len⟩
  · rw [upd_ne (ne_of_none h fp)]; exact R.sub a o h
  · obtain ⟨fq, h1, h2, h3⟩ := R.lay
    refine ⟨fq, fun j e h => ?_, h2, h3⟩
    obtain ⟨v, q1, q2⟩ := h1 j e h
    exact ⟨v, q1, q2.keep (Sub.refl _) fun a ha u h => by rw [upd_ne (ne a (h3 j a ha))]; exact h⟩
  · rw [upd_ne (ne a ha)]; exact R.there a ha
  · obtain ⟨a, oe, C, q1, q2, q3, q4, q5⟩ := R.exn j c fs h
    refine ⟨a, oe, C, q1, q2, q3, q4, q5.imp id ?_⟩
    rintro ⟨f, d', dx, w, e1, e2, e3, e4, e5⟩
    have : dx ≠ p := fun z => by rw [z, hp] at e3; cases e3
    exact ⟨f, d', dx, w, e1, e2, by rw [upd_ne this]; exact e3, e4, e5⟩
/-- no error leaves -/
def noEx {α : Type} : Res α → Res α
  | .ex _ _ _ => .bad
  | r => r
/-- the loop of a comprehension -/
def lcL (vs : List Nat) (g : D → En → Option En) (t : MT) (e : ME) : List D → List D → En → Res (List D)
  | [], acc, s => .ok acc s
  | d :: ds, acc, s => match g d (wipeD s vs) with
    | none => .bad
    | some s1 => (noEx (t s1)).bind fun b s2 => match b with
      | true => (noEx (e s2)).bind fun y s3 => if acc.length < sizeLine then lcL vs g t e ds (acc ++ [y]) s3 else .bad
      | false => lcL vs g t e ds acc s2
def mLc (vs : List Nat) (it : En → Res (List D)) (g : D → En → Option En) (t : MT) (e : ME) : ME := fun s => (it s).bind fun ds s1 => (lcL vs g t e ds [] s1).bind fun r s2 => .ok (.lst r) (restD s1 s2 vs)
def mYes : MT := fun s => .ok true s
def W0 : WX := fun _ _ _ _ => False
theorem gts_nil : PTs X [] (tT (km X) J W mYes) := ⟨fun pins s σ H Q I h => pts_nil.run pins s σ H Q I (let ⟨F, A, s, R, q⟩ := h; GOk.here (P := PEq Bool) R rfl q)⟩
theorem gts_one {c : Expr} {t : MT} (h : PT X c (tT (km X) J W t)) : PTs X [c] (tT (km X) J W t) := pts_one h
theorem lc_run {own : List (Str × Nat)} {it : En → Res (List D)} {g : D → En → Option En} {sl : List Nat} {t : MT} {e : ME} (hsl : ∀ i ∈ sl, i ∈ own.map (·.2)) (ho : OffAll J (own.map (·.2))) {σ : L2.St} {H : Hp} {Q : VK} :
    tF (km X) J W (mLc (own.map (·.2)) it g t e) σ H Q → tLc (tI (km X) J W it) (tGt (km X) J sl g) (tT (km X) J W0 t) (tE (km X) J W0 e) (own.map (·.2)) σ H Q := fun ⟨F, A, s, R, q⟩ => by
  refine ⟨F, A, s, R, ?_⟩
  unfold mLc at q
  cases ei : it s with
  | bad => rw [ei] at q; exact q
  | ex c fs s1 => rw [ei] at q; exact q
  | ok ds s1 =>
    rw [ei] at q
    intro j F1 H1 A1 S1 R1 y Da hDa
    have q := FOk.shift S1 q
    obtain ⟨G, Y, w, hG, hY⟩ := y.w
    have nA : ∀ {F' H' : Hp} {s' : En} {σ' : L2.St} {A' : Addr → Prop}, Rel (km X) J F' H' s' σ' A' → H' Da = none → ¬ A' Da := fun R' n z => by
      obtain ⟨o, ho⟩ := R'.ex Da z
      rw [n] at ho; cases ho
    refine lc_it w (fun i H' => ∃ (F2 : Hp) (A2 : Addr → Prop) (s2 : En) (acc : List D) (va : List V) (σ2 : L2.St), Rel (km X) J F2 H' s2 σ2 A2 ∧ σ2.length = σ.length ∧ (∀ j, j ∉ own.map (·.2) → σ2[j]? = σ[j]?) ∧ Sub F1 F2 ∧ H' Da = some (.lst va) ∧ Reps X.K X.mg F2 acc va ∧ F2 Da = none ∧ ¬ A2 Da ∧
      Stp A1 F1 H1 A2 F2 H' ∧ FOk (km X) J W σ A1 F1 H1 Q ((lcL (own.map (·.2)) g t e (ds.drop i) acc s2).bind fun r s2 => .ok (.lst r) (restD s1 s2 (own.map (·.2))))) ?_ ?_ ?_ ?_
    · obtain ⟨R2, S2⟩ := R1.addH (o := .lst []) hDa
      refine ⟨F1, A1, s1, [], [], σ, R2, rfl, fun _ _ => rfl, Sub.refl _, upd_same, .nil, ?_, nA R1 hDa, S2, q⟩
      cases e : F1 Da with
      | none => rfl
      | some u => rw [R1.sub Da u e] at hDa; cases hDa
    · rintro i H' hi ⟨F2, A2, s2, acc, va, σ2, R2, _, _, sF, _⟩
      exact hG F2 H' sF R2.sub
    · rintro i x H2 H3 hi ⟨F2, A2, s2, acc, va, σ2, R2, hl2, hk2, sF, hD, ra, fD, aD, S2, q2⟩ hy
      have hd : ds[i]? = some ds[i] := by simp [hi]
      obtain ⟨F3, gr, rp⟩ := hY i H2 x H3 F2 _ hd sF R2.sub hy
      have R3 := R2.grow gr
      have hD3 : H3 Da = some (.lst va) := gr.h _ _ hD
      have fD3 : F3 Da = none := by
        cases e : F3 Da with
        | none => rfl
        | some u => rw [gr.n _ _ e fD] at hD; cases hD
      have S3 : Stp A1 F1 H1 A2 F3 H3 := S2.trans gr.stp
      have R4 : Rel (km X) J F3 H3 (wipeD s2 (own.map (·.2))) (L2.wipe σ (own.map (·.2))) A2 := R3.wipe ho (by rw [wipe_length, hl2]) fun j hj => by rw [wipe_get_ne hj, hk2 j hj]
      rw [List.drop_eq_getElem_cons hi] at q2
      unfold lcL at q2
      cases eg : g ds[i] (wipeD s2 (own.map (·.2))) with
      | none => rw [eg] at q2; exact q2.elim
      | some s3 =>
        rw [eg] at q2
        refine ⟨F3, A2, _, _, s3, R4, rp, eg, fun σ3 R5 k5 l5 => ⟨?_, F3, A2, s3, R5, ?_⟩⟩
        · refine (wipe_eq (by rw [l5]) fun j hj => k5 j fun z => hj (hsl j z)).trans wipe_wipe
        · have hk3 : ∀ j, j ∉ own.map (·.2) → σ3[j]? = σ[j]? := fun j hj => (k5 j fun z => hj (hsl j z)).trans (wipe_get_ne hj)
          have hl3 : σ3.length = σ.length := by rw [l5, wipe_length]
          have q2 : FOk (km X) J W σ A1 F1 H1 Q (((noEx (t s3)).bind fun b s2 => match b with
            | true => (noEx (e s2)).bind fun y s3 => if acc.length < sizeLine then lcL (own.map (·.2)) g t e (ds.drop (i + 1)) (acc ++ [y]) s3 else .bad
            | false => lcL (own.map (·.2)) g t e (ds.drop (i + 1)) acc s2).bind fun r s2 => .ok (.lst r) (restD s1 s2 (own.map (·.2)))) := q2
          cases et : t s3 with
          | bad => rw [et] at q2; exact q2
          | ex c fs s4 => rw [et] at q2; exact q2.elim
          | ok b s4 =>
            rw [et] at q2
            rintro b' F4 H4 A4 S4 R6 rfl
            have hD4 : H4 Da = some (.lst va) := S4.keep _ _ hD3 aD
            have aD4 : ¬ A4 Da := fun z => by
              rcases S4.own _ z with z | z
              · exact aD z
              · rw [hD3] at z; cases z
            have fD4 : F4 Da = none := by
              cases e : F4 Da with
              | none => rfl
              | some u =>
                rcases S4.new _ _ e fD3 with z | z
                · rw [hD3] at z; cases z
                · exact absurd z aD
            cases b with
            | false =>
              rw [if_neg (by decide)]
              exact ⟨F4, A4, s4, acc, va, σ3, R6, hl3, hk3, (sF.trans gr.f).trans S4.mono, hD4, (ra.mono gr.f).mono S4.mono, fD4, aD4, S3.trans S4, q2⟩
            | true =>
              rw [if_pos rfl]
              refine ⟨F4, A4, s4, R6, ?_⟩
              cases ee : e s4 with
              | bad =>
                have q2 : FOk (km X) J W σ A1 F1 H1 Q (((noEx (e s4)).bind fun y s3 => if acc.length < sizeLine then lcL (own.map (·.2)) g t e (ds.drop (i + 1)) (acc ++ [y]) s3 else .bad).bind fun r s2 => .ok (.lst r) (restD s1 s2 (own.map (·.2)))) := q2
                rw [ee] at q2; exact q2
              | ex c fs s5 =>
                have q2 : FOk (km X) J W σ A1 F1 H1 Q (((noEx (e s4)).bind fun y s3 => if acc.length < sizeLine then lcL (own.map (·.2)) g t e (ds.drop (i + 1)) (acc ++ [y]) s3 else .bad).bind fun r s2 => .ok (.lst r) (restD s1 s2 (own.map (·.2)))) := q2
                rw [ee] at q2; exact q2.elim
              | ok y s5 =>
                have q2 : FOk (km X) J W σ A1 F1 H1 Q (((noEx (e s4)).bind fun y s3 => if acc.length < sizeLine then lcL (own.map (·.2)) g t e (ds.drop (i + 1)) (acc ++ [y]) s3 else .bad).bind fun r s2 => .ok (.lst r) (restD s1 s2 (own.map (·.2)))) := q2
                rw [ee] at q2
                intro v F5 H5 A5 S5 R7 rv
                have hD5 : H5 Da = some (.lst va) := S5.keep _ _ hD4 aD4
                have aD5 : ¬ A5 Da := fun z => by
                  rcases S5.own _ z with z | z
                  · exact aD4 z
                  · rw [hD4] at z; cases z
                have fD5 : F5 Da = none := by
                  cases e : F5 Da with
                  | none => rfl
                  | some u =>
                    rcases S5.new _ _ e fD4 with z | z
                    · rw [hD4] at z; cases z
                    · exact absurd z aD4
                have ra5 : Reps X.K X.mg F5 acc va := ((ra.mono gr.f).mono S4.mono).mono S5.mono
                by_cases hz : acc.length < sizeLine
                · refine ⟨va, hD5, by rw [← ra.length]; exact hz, ?_⟩
                  have q3 : FOk (km X) J W σ A1 F1 H1 Q ((lcL (own.map (·.2)) g t e (ds.drop (i + 1)) (acc ++ [y]) s5).bind fun r s2 => .ok (.lst r) (restD s1 s2 (own.map (·.2)))) := by
                    have q2 : FOk (km X) J W σ A1 F1 H1 Q ((if acc.length < sizeLine then lcL (own.map (·.2)) g t e (ds.drop (i + 1)) (acc ++ [y]) s5 else .bad).bind fun r s2 => .ok (.lst r) (restD s1 s2 (own.map (·.2)))) := q2
                    rw [if_pos hz] at q2; exact q2
                  refine ⟨F5, A5, s5, acc ++ [y], va ++ [v], σ3, R7.upd hD5 fD5 aD5, hl3, hk3, ((sF.trans gr.f).trans S4.mono).trans S5.mono, upd_same, ra5.append (.cons rv .nil), fD5, aD5, ?_, q3⟩
                  have St := (S3.trans S4).trans S5
                  exact ⟨fun a o h n => by rw [upd_ne (ne_of_none h hDa)]; exact St.keep a o h n, St.mono, St.new, St.own⟩
                · have q2 : FOk (km X) J W σ A1 F1 H1 Q ((if acc.length < sizeLine then lcL (own.map (·.2)) g t e (ds.drop (i + 1)) (acc ++ [y]) s5 else .bad).bind fun r s2 => .ok (.lst r) (restD s1 s2 (own.map (·.2)))) := q2
                  rw [if_neg hz] at q2; exact q2.elim
    · rintro H2 ⟨F2, A2, s2, acc, va, σ2, R2, hl2, hk2, sF, hD, ra, fD, aD, S2, q2⟩
      rw [List.drop_length] at q2
      have R3 : Rel (km X) J F2 H2 (restD s1 s2 (own.map (·.2))) σ A2 := R2.rest R1 sF (by rw [hl2]) fun j hj => (hk2 j hj).symm
      refine q2 (.ref Da) F2 H2 A2 [Da] S2 R3 (.lst hD ra) fun a ha => ?_
      rw [List.mem_singleton.mp ha]
      exact ⟨fD, aD, .inr hDa⟩
theorem gf_lc {elt tg iter : Expr} {ifs : List Expr} {scope : Scope} {own : List (Str × Nat)} {pos : Pos} {it : En → Res (List D)} {g : D → En → Option En} {sl : List Nat} {t : MT} {e : ME} (hc : X.calm = true) (hN : X.N.Nodup) (hi : PI X tg iter (tI (km X) J W it)) (ok : BlkOk X.N X.env.scope scope own)
    (hg : ∀ (s : Shared) (H : Hp) (C : Addr) (cl : List (Str × Addr)) (fp : List Addr), PG (X.blk s H scope (compEnvC scope cl C X.env) fp) tg (tGt (km X) J sl g)) (ht : ∀ (s : Shared) (H : Hp) (C : Addr) (cl : List (Str × Addr)) (fp : List Addr), PTs (X.blk s H scope (compEnvC scope cl C X.env) fp) ifs (tT (km X) J W0 t))
    (he : ∀ (s : Shared) (H : Hp) (C : Addr) (cl : List (Str × Addr)) (fp : List Addr), PE (X.blk s H scope (compEnvC scope cl C X.env) fp) elt (tE (km X) J W0 e))
    (hsl : ∀ i ∈ sl, i ∈ own.map (·.2)) (ho : OffAll J (own.map (·.2))) (hs : ∀ x, foldedSetIterable iter X.env x = pure x := by intro _; rfl) :
    PE X (.ListComp elt [⟨tg, iter, ifs, 0⟩] scope pos) (tF (km X) J W (mLc (own.map (·.2)) it g t e)) := by
  have base : PE X (.ListComp elt [⟨tg, iter, ifs, 0⟩] scope pos) (tLc (tI (km X) J W it) (tGt (km X) J sl g) (tT (km X) J W0 t) (tE (km X) J W0 e) (own.map (·.2))) := pe_lc hc hN hi ok hg ht he hs
  exact peImp base fun σ H Q q => lc_run hsl ho q
theorem gs_setLc {elt tg iter : Expr} {ifs : List Expr} {scope : Scope} {own : List (Str × Nat)} {i : Nat} {y : Str} {py pos spos : Pos} {it : En → Res (List D)} {g : D → En → Option En} {sl : List Nat} {t : MT} {e : ME} (hc : X.calm = true) (hN : X.N.Nodup) (oy : Off J i) (hy : X.N[i]? = some y) (hyl : X.env.scope.names.lookup y = some .local) (hsw : swapsWith (.ListComp elt [⟨tg, iter, ifs, 0⟩] scope pos) (some (.Name y py)) spos.line X.env = pure true) (hi : PI X tg iter (tI (km X) J W it)) (ok : BlkOk X.N X.env.scope scope own)
    (hg : ∀ (s : Shared) (H : Hp) (C : Addr) (cl : List (Str × Addr)) (fp : List Addr), PG (X.blk s H scope (compEnvC scope cl C X.env) fp) tg (tGt (km X) J sl g)) (ht : ∀ (s : Shared) (H : Hp) (C : Addr) (cl : List (Str × Addr)) (fp : List Addr), PTs (X.blk s H scope (compEnvC scope cl C X.env) fp) ifs (tT (km X) J W0 t))
    (he : ∀ (s : Shared) (H : Hp) (C : Addr) (cl : List (Str × Addr)) (fp : List Addr), PE (X.blk s H scope (compEnvC scope cl C X.env) fp) elt (tE (km X) J W0 e))
    (hsl : ∀ i ∈ sl, i ∈ own.map (·.2)) (ho : OffAll J (own.map (·.2))) (hs : ∀ x, foldedSetIterable iter X.env x = pure x := by intro _; rfl) :
    PS X (.Assign [.Name y py] (.ListComp elt [⟨tg, iter, ifs, 0⟩] scope pos) spos) (tS (km X) J W (mAsg i (mFrz (mLc (own.map (·.2)) it g t e)))) :=
  psImp (ps_setLc hc hN hy hyl hsw hi ok hg ht he hs) fun D σ H ⟨F, A, s, R, q⟩ => lc_run hsl ho (frz_run (bindS (P := PRep (km X)) R q fun d s1 v F1 H1 A1 S R1 p q1 => q1 _ F1 H1 A1 Stp.refl (R1.setD oy p)))
theorem gs_setLcB {elt tg iter : Expr} {ifs : List Expr} {scope : Scope} {own : List (Str × Nat)} {i : Nat} {y : Str} {py pos spos : Pos} {it : En → Res (List D)} {g : D → En → Option En} {sl : List Nat} {t : MT} {e : ME} (hc : X.calm = true) (hN : X.N.Nodup) (oy : Off J i) (hy : X.N[i]? = some y) (hyl : X.env.scope.names.lookup y = some .local) (hsw : swapsWith (.ListComp elt [⟨tg, iter, ifs, 0⟩] scope pos) (some (.Name y py)) spos.line X.env = pure true) (hi : PI X tg iter (tI (km X) J W it)) (ok : BlkOk X.N X.env.scope scope own)
    (hg : ∀ (s : Shared) (H : Hp) (C : Addr) (cl : List (Str × Addr)) (fp : List Addr), PG (X.blk s H scope (compEnvC scope cl C X.env) fp) tg (tGt (km X) J sl g)) (ht : ∀ (s : Shared) (H : Hp) (C : Addr) (cl : List (Str × Addr)) (fp : List Addr), PTs (X.blk s H scope (compEnvC scope cl C X.env) fp) ifs (tT (km X) J W0 t))
    (he : ∀ (s : Shared) (H : Hp) (C : Addr) (cl : List (Str × Addr)) (fp : List Addr), PE (X.blk s H scope (compEnvC scope cl C X.env) fp) elt (tE (km X) J W0 e))
    (hsl : ∀ i ∈ sl, i ∈ own.map (·.2)) (ho : OffAll J (own.map (·.2))) (hs : ∀ x, foldedSetIterable iter X.env x = pure x := by intro _; rfl) :
    PS X (.Assign [.Name y py] (.ListComp elt [⟨tg, iter, ifs, 0⟩] scope pos) spos) (tS (km X) J W (mAsgB i (mLc (own.map (·.2)) it g t e))) :=
  psImp (ps_setLc hc hN hy hyl hsw hi ok hg ht he hs) fun D σ H ⟨F, A, s, R, q⟩ => lc_run hsl ho ⟨F, A, s, R, bindFS R q fun d s1 v F1 H1 A1 B S R1 ow hb q1 => q1 _ F1 H1 _ (S.plus fun a ha => (hb a ha).2.2) (R1.setB oy ow fun a ha => ⟨(hb a ha).1, (hb a ha).2.1⟩)⟩
end
end Mir
namespace L2
open PySem PySem.Spec PyProof.Rows
section
variable {X : Cx} {CX : CXT} {k : Nat} {f C : Addr} {fd : FuncData} {ps : List Str} {sp : Sp} {E : St → XK} {x m : Str} {p pos apos : Pos} {e o : Expr} {es : List Expr} {ta : TE} {t : TA}
theorem run_makeM {pins : List (Addr × Obj)} {σ : St} {H : Hp} {s : Shared} {Q : VK} {us : List Value} {vs : List V} {E : XK} (M : Mk X.K C f) (F : FnOk X.prog X.w X.K X.mg X.base CX k f fd ps sp) (hr : Room (k + 1) X.A) (hb : Binds X.K fd ps [])
    (hx : PassesAt CX X σ E) (I : Inv X pins σ H s) (r : Vals vs us)
    (h : ∀ x dx, H x = none → H dx = none → dx ≠ x → sp (.ref x :: vs) (upd (upd H dx (.own x)) x (.ins C dx [])) (fun v H2 => v = .non ∧ Q (.ref x) H2) E) :
    wpAny (model X.prog X.w) X.A (call (.ref C) us) (EP X pins σ Q) X.xe s := by
  have hq := h (s.heap.objs.size + 1) s.heap.objs.size (I.hok.fresh (Nat.le_succ _)) (I.hok.fresh (Nat.le_refl _)) (Nat.ne_of_lt (Nat.lt_succ_self _))
  have I2 := Inv.made (C := C) I
  have r2 : Vals (V.ref (s.heap.objs.size + 1) :: vs) (Value.ref (s.heap.objs.size + 1) :: us) := .cons rfl r
  have hl : (Value.ref (s.heap.objs.size + 1) :: us).length = ps.length := by
    have e := r2.length
    rw [F.len _ _ _ _ hq] at e
    exact e.symm
  have b := hb _ (Value.ref (s.heap.objs.size + 1) :: us) I2.kIn (by rw [List.append_nil]; exact hl)
  rw [List.append_nil] at b
  refine wpAny_call (make_map (f := f) I.kIn M.makes M.init (beq_iff_eq.mp M.fn) (codeAny_mono (F.run _ X.stack _ _ ⟨Value.ref (s.heap.objs.size + 1) :: us, []⟩ (Value.ref (s.heap.objs.size + 1) :: us) _ _ E (hr.make C us [])
    (I2.env0.make C us []) b r2 hq) fun r s' hq' => ?_))
  cases r with
  | error e => exact hx pins _ _ e s' I2 hq'
  | ok fl =>
    cases fl with
    | ret u =>
      obtain ⟨v, H', I3, rv, ev, q3⟩ := I2.after hq'
      subst ev
      exact ⟨rv, ⟨V.ref (s.heap.objs.size + 1), H', I3, rfl, q3⟩⟩
    | next => exact False.elim hq'
    | brk => exact False.elim hq'
    | cont => exact False.elim hq'
def tMakeM (C : Addr) (sp : Sp) (E : St → XK) (t : TA) : TE := fun σ H Q => t σ H fun vs H1 => ∀ x dx, H1 x = none → H1 dx = none → dx ≠ x →
  sp (.ref x :: vs) (upd (upd H1 dx (.own x)) x (.ins C dx [])) (fun v H2 => v = .non ∧ Q (.ref x) H2) (E σ)
theorem pe_makeM (M : Mk X.K C f) (F : FnOk X.prog X.w X.K X.mg X.base CX k f fd ps sp) (hr : Room (k + 1) X.A) (hg : Gl X x) (hm : X.mg x = some (.ref C)) (hb : Binds X.K fd ps []) (hx : ∀ σ, PassesAt CX X σ (E σ))
    (ha : PA X (e :: es) t) (hdb : (x == ("__debug__" : Str)) = false := by decide) (he : starEach (e :: es) X.env = (false, eval e X.env) :: starEach es X.env := by rfl) (hpl : (backTo pos (starEach es X.env)).any (·.1) = false := by rfl) :
    PE X (.Call (.Name x p) (e :: es) [] pos) (tMakeM C sp E t) := by
  refine ⟨fun pins s σ H Q I h => ?_⟩
  refine wpAny_Call_Name_kw (ld_glob I hg hm ?_ hdb)
  refine PySem.W.callWith_K (h₀ := X.base) I.ok.mod.kin M.kp (thn (ha.run pos pins s σ H _ I h) fun us s1 ⟨vs, H1, I1, r, q⟩ => ⟨I1.kIn, ?_⟩) he hpl
  exact run_makeM M F hr hb (hx σ) I1 r q
theorem pe_makeM0 (M : Mk X.K C f) (F : FnOk X.prog X.w X.K X.mg X.base CX k f fd ps sp) (hr : Room (k + 1) X.A) (hg : Gl X x) (hm : X.mg x = some (.ref C)) (hb : Binds X.K fd ps []) (hx : ∀ σ, PassesAt CX X σ (E σ))
    (hdb : (x == ("__debug__" : Str)) = false := by decide) : PE X (.Call (.Name x p) [] [] pos) (tMakeM C sp E tNil) := by
  refine ⟨fun pins s σ H Q I h => ?_⟩
  refine wpAny_Call_Name_kw (ld_glob I hg hm ?_ hdb)
  exact PySem.W.callWith_K0 I.kIn M.kp (run_makeM (us := []) M F hr hb (hx σ) I .nil h)
/-- o.m(..) -/
def tMethM (C : Addr) (m : Str) (sp : Sp) (E : St → XK) (ta : TE) (t : TA) : TE := fun σ H Q => ta σ H fun x H1 => ∃ a dx fs, x = .ref a ∧ H1 a = some (.ins C dx fs) ∧ fs.lookup m = none ∧
  t σ H1 fun vs H2 => sp (x :: vs) H2 Q (E σ)
theorem pe_methM {pl : Sem Bool} (he : PE X o ta) (c : Cls X.K C) (hm : Meth X.K C m f) (F : FnOk X.prog X.w X.K X.mg X.base CX k f fd ps sp) (hr : Room k X.A) (hb : Binds X.K fd ps []) (hx : ∀ σ, PassesAt CX X σ (E σ)) (ha : PA X (e :: es) t)
    (hst : starEach (e :: es) X.env = (false, eval e X.env) :: starEach es X.env := by rfl) (hpl : (backTo pos (starEach es X.env)).any (·.1) = false := by rfl)
    (ht : eval (.Call (.Attribute o m apos) (e :: es) [] pos) X.env = (do
      let ov ← eval o X.env
      standAt apos.atName
      let (f, first) ← holding [ov] (getMethod ov m pl)
      callWith pos f first (backTo pos (starEach (e :: es) X.env)) (backToKw pos (keywordEach [] X.env))) := by rfl) :
    PE X (.Call (.Attribute o m apos) (e :: es) [] pos) (tMethM C m sp E ta t) := by
  refine ⟨fun pins s σ H Q I h => ?_⟩
  refine PySem.W.methodCall_KW (pl := pl) (thn (he.run pins s σ H _ I h) fun u s1 ⟨x, H1, I1, rx, a, dx, fs, ex, ea, l, q⟩ => ?_) ht
  subst ex
  obtain rfl : u = Value.ref a := rx
  refine getmeth_ok I1 ea c hm l ?_
  refine PySem.W.callWith_K (first := [.ref a]) (h₀ := X.base) I.ok.mod.kin hm.kp (thn (ha.run pos pins s1 σ H1 _ I1 q) fun us s2 ⟨vs, H2, I2, r, q2⟩ => ⟨I2.kIn, ?_⟩) hst hpl
  exact run_fnS (us := .ref a :: us) (vs := .ref a :: vs) F hr hb (hx σ) I2 (.cons rfl r) q2
theorem pe_methM0 {pl : Sem Bool} (he : PE X o ta) (c : Cls X.K C) (hm : Meth X.K C m f) (F : FnOk X.prog X.w X.K X.mg X.base CX k f fd ps sp) (hr : Room k X.A) (hb : Binds X.K fd ps []) (hx : ∀ σ, PassesAt CX X σ (E σ))
    (ht : eval (.Call (.Attribute o m apos) [] [] pos) X.env = (do
      let ov ← eval o X.env
      standAt apos.atName
      let (f, first) ← holding [ov] (getMethod ov m pl)
      callWith pos f first (backTo pos (starEach [] X.env)) (backToKw pos (keywordEach [] X.env))) := by rfl) :
    PE X (.Call (.Attribute o m apos) [] [] pos) (tMethM C m sp E ta tNil) := by
  refine ⟨fun pins s σ H Q I h => ?_⟩
  refine PySem.W.methodCall_KW (pl := pl) (thn (he.run pins s σ H _ I h) fun u s1 ⟨x, H1, I1, rx, a, dx, fs, ex, ea, l, q⟩ => ?_) ht
  subst ex
  obtain rfl : u = Value.ref a := rx
  refine getmeth_ok I1 ea c hm l ?_
  exact PySem.W.callWith_K0 (first := [.ref a]) I1.kIn hm.kp (run_fnS (us := [.ref a]) (vs := [.ref a]) F hr hb (hx σ) I1 (.cons rfl .nil) q)
end
end L2
namespace L2
open PySem PySem.Spec PyProof.Rows
section
variable {X : Cx} {pins : List (Addr × Obj)} {σ : St} {H : Hp} {s : Shared} {a b : Addr} {y v : V} {u : Value} {o : Option V} {A : Around} {E : Value → Shared → Prop}
/-- a tuple that is read is a key -/
theorem key_ofS {ks : List Key} (I : Inv X pins σ H s) (e : SqT X.K H b (ks.map kV)) : (tupleKind (mixKind X.prog X.w)).is s.heap ks b := by
  obtain ⟨its, r, ⟨o, h1, h2, n, h3⟩, _⟩ := I.tuple e
  exact ⟨o, its.toArray, n, h1, h2, h3, by simpa using items_are r⟩
def DGetS (K : PySem.W.Frag) (H : Hp) (a : Addr) (y : V) (r : Option V) : Prop :=
  (∃ kvs k, H a = some (.dK kvs) ∧ y = kV k ∧ r = valV kvs k) ∨ ∃ kvs k b, H a = some (.dT kvs) ∧ y = .ref b ∧ SqT K H b (k.map kV) ∧ r = valV kvs k
theorem dS_typeIs (I : Inv X pins σ H s) (g : DGetS X.K H a y o) : s.TypeIs (.ref a) "dict" := by
  rcases g with ⟨kvs, k, e, _, _⟩ | ⟨kvs, k, b, e, _, _, _⟩
  · obtain ⟨_, _, vs, _, dd⟩ := dk_of I.hok e
    exact dd.typeIs
  · obtain ⟨_, _, xs, _, dd⟩ := dt_of I.hok e
    exact dd.typeIs
theorem dS_getItem {Q : Value → Shared → Prop} (hu : A.units + 1 < cLine) (I : Inv X pins σ H s) (g : DGetS X.K H a y (some v)) (ry : RelV y u) (h : ∀ w' s', Inv X pins σ H s' → RelV v w' → Q w' s') :
    wpAny (model X.prog X.w) A (getItem (.ref a) u) Q E s := by
  rcases g with ⟨kvs, k, e, ey, l⟩ | ⟨kvs, k, b, e, ey, eb, l⟩
  · subst ey
    obtain ⟨z, hd, vs, rel, dd⟩ := dk_of I.hok e
    obtain ⟨w', hw, rw'⟩ := RelO.some_of (v := v) (o := valueAt vs k) (by rw [l]; exact rel.val k)
    exact wpAny_getItem_of (kV_is ry) dd.mapOf hw (h w' _ (I.tok _) rw')
  · subst ey
    cases (show u = Value.ref b from ry)
    obtain ⟨z, hd, xs, rel, dd⟩ := dt_of I.hok e
    obtain ⟨w', hw, rw'⟩ := RelO.some_of (v := v) (o := (atKey xs k).map (·.2)) (by rw [l]; exact rel.val k)
    obtain ⟨p, hp, hp2⟩ := Option.map_eq_some_iff.mp hw
    refine wpAny_getItem_heap (tupleKind_room_in1 hu) (key_ofS I eb) dd hp ?_
    rw [hp2]
    exact h w' _ (I.tok _) rw'
theorem dS_in {Q : Value → Shared → Prop} (hu : A.units + 1 < cLine) (I : Inv X pins σ H s) (g : DGetS X.K H a y o) (ry : RelV y u) (h : ∀ s', Inv X pins σ H s' → Q (.bool o.isSome) s') :
    wpAny (model X.prog X.w) A (compareOp .In u (.ref a)) Q E s := by
  rcases g with ⟨kvs, k, e, ey, l⟩ | ⟨kvs, k, b, e, ey, eb, l⟩
  · subst ey
    obtain ⟨z, hd, vs, rel, dd⟩ := dk_of I.hok e
    refine wpAny_in_of (kV_is ry) hd dd.mapOf ?_
    rw [← (rel.val k).isSome_eq, ← l]
    exact h _ (I.tok _)
  · subst ey
    cases (show u = Value.ref b from ry)
    obtain ⟨z, hd, xs, rel, dd⟩ := dt_of I.hok e
    refine wpAny_in_heap (tupleKind_room_in1 hu) (key_ofS I eb) hd dd ?_
    have q := (rel.val k).isSome_eq
    rw [Option.isSome_map] at q
    rw [← q, ← l]
    exact h _ (I.tok _)
theorem dS_notIn {Q : Value → Shared → Prop} (hu : A.units + 1 < cLine) (I : Inv X pins σ H s) (g : DGetS X.K H a y o) (ry : RelV y u) (h : ∀ s', Inv X pins σ H s' → Q (.bool (!o.isSome)) s') :
    wpAny (model X.prog X.w) A (compareOp .NotIn u (.ref a)) Q E s := by
  rcases g with ⟨kvs, k, e, ey, l⟩ | ⟨kvs, k, b, e, ey, eb, l⟩
  · subst ey
    obtain ⟨z, hd, vs, rel, dd⟩ := dk_of I.hok e
    refine wpAny_notIn_of (kV_is ry) hd dd.mapOf ?_
    rw [← (rel.val k).isSome_eq, ← l]
    exact h _ (I.tok _)
  · subst ey
    cases (show u = Value.ref b from ry)
    obtain ⟨z, hd, xs, rel, dd⟩ := dt_of I.hok e
    refine wpAny_notIn_heap (tupleKind_room_in1 hu) (key_ofS I eb) hd dd ?_
    have q := (rel.val k).isSome_eq
    rw [Option.isSome_map] at q
    rw [← q, ← l]
    exact h _ (I.tok _)
end
section
variable {X : Cx}
def rGetD (K : PySem.W.Frag) : R2 := fun x y H Q => ∃ a v, x = .ref a ∧ DGetS K H a y (some v) ∧ Q v H
theorem ix_dict (hu : X.A.units + 1 < cLine) : IxR X (rGetD X.K) := by
  intro value slice pins s σ H x y v u Q I rx ry h hs
  obtain ⟨a, w, rfl, g, q⟩ := h
  cases rx
  exact tail_any (dS_typeIs I g) PySem.F.slot_dict_getitem.lookup (dS_getItem hu I g ry fun w' s' I' r' => ⟨w, H, I', r', q⟩) hs
def rInDc (K : PySem.W.Frag) (neg : Bool) : R2 := fun x y H Q => ∃ a o, y = .ref a ∧ DGetS K H a x o ∧ Q (.bl (xor neg o.isSome)) H
theorem op_inDc (hu : X.A.units + 1 < cLine) : OpR X (compareOp .In) (rInDc X.K false) := by
  intro pins s σ H x y v u Q I rx ry h
  obtain ⟨a, o, rfl, g, q⟩ := h
  cases ry
  exact dS_in hu I g rx fun s' I' => ⟨.bl o.isSome, H, I', rfl, by simpa using q⟩
theorem op_notInDc (hu : X.A.units + 1 < cLine) : OpR X (compareOp .NotIn) (rInDc X.K true) := by
  intro pins s σ H x y v u Q I rx ry h
  obtain ⟨a, o, rfl, g, q⟩ := h
  cases ry
  exact dS_notIn hu I g rx fun s' I' => ⟨.bl (!o.isSome), H, I', rfl, by simpa using q⟩
end
end L2
namespace Mir
open PySem PySem.Spec PyProof.Rows L2

/-! ### values that are told without changing anything -/
inductive Pr where
  | ok (d : D) | ex (c : Str) (fs : List (Str × D)) | bad
abbrev MP := En → Pr
def Pr.bind (r : Pr) (k : D → Pr) : Pr := match r with
  | .ok d => k d
  | .ex c fs => .ex c fs
  | .bad => .bad
def Pr.of : Option D → Pr
  | some d => .ok d
  | none => .bad
abbrev PV := Hp → Hp → D → V → Prop
section
variable (X : Km) (J : Anc) (W : WX)
def UOk (P : PV) (σ : L2.St) (A : Addr → Prop) (F H : Hp) (Q : VK) : Pr → Prop
  | .ok d => ∀ (v : V) (F' H' : Hp), Grow F H F' H' → P F' H' d v → Q v H'
  | .ex c fs => ∀ (cls : Value) (dx : Option Addr) (F' H' : Hp), Grow F H F' H' → Exc X A F' H' c fs cls dx → W cls dx σ H'
  | .bad => False
def tP1 (P : PV) (m : MP) : TE := fun σ H Q => ∃ (F : Hp) (A : Addr → Prop) (s : En), Rel X J F H s σ A ∧ UOk X W P σ A F H Q (m s)
abbrev pR : PV := fun F _ d v => Rep X.K X.mg F d v
abbrev pV : PV := fun F H d v => Vw X.K X.mg F H d v
abbrev tU (m : MP) : TE := tP1 X J W (pR X) m
abbrev tV (m : MP) : TE := tP1 X J W (pV X) m
end
section
variable {K : PySem.W.Frag} {mg : Str → Option Value} {F F' H H' : Hp}
theorem OwnF.growF (g : Grow F H F' H') {fs : List (Str × D)} {vs : List (Str × V)} {B : List Addr} (r : OwnF K mg F H fs vs B) : OwnF K mg F' H' fs vs B := r.keep g.f fun a _ u h => g.h a u h
theorem Vw.grow (g : Grow F H F' H') {d : D} {v : V} (w : Vw K mg F H d v) : Vw K mg F' H' d v := by
  cases d with
  | lst ds => obtain ⟨a, vs, rfl, h, r⟩ := w; exact ⟨a, vs, rfl, g.h.sqL h, r.mono g.f⟩
  | dct ds => obtain ⟨a, vs, rfl, h, r⟩ := w; exact ⟨a, vs, rfl, g.h _ _ h, r.mono g.f⟩
  | dtt ds => obtain ⟨a, vs, rfl, h, r⟩ := w; exact ⟨a, vs, rfl, g.h _ _ h, r.mono g.f⟩
  | ins c fs => obtain ⟨a, C, dx, xs, B, rfl, h, hm, r⟩ := w; exact ⟨a, C, dx, xs, B, rfl, g.h _ _ h, hm, r.growF g⟩
  | _ => exact Rep.mono g.f w
theorem Vws.grow (g : Grow F H F' H') : ∀ {ds : List D} {vs : List V}, Vws K mg F H ds vs → Vws K mg F' H' ds vs
  | _, _, .nil => .nil
  | _, _, .cons h r => .cons (h.grow g) (Vws.grow g r)
end
section
variable {X : Cx} {J : Anc} {W : WX} {σ : L2.St} {A : Addr → Prop} {F H F1 H1 : Hp} {s : En} {P P' : PV}
theorem UOk.shift {Q : VK} {r : Pr} (g : Grow F H F1 H1) (h : UOk (km X) W P σ A F H Q r) : UOk (km X) W P σ A F1 H1 Q r := by
  cases r with
  | ok d => exact fun v F2 H2 g2 => h v F2 H2 (g.trans g2)
  | ex c fs => exact fun cls dx F2 H2 g2 => h cls dx F2 H2 (g.trans g2)
  | bad => exact h
theorem bindU {m : MP} {k : D → Pr} {Q T : VK} (R : Rel (km X) J F H s σ A) (h : UOk (km X) W P' σ A F H Q ((m s).bind k))
    (hk : ∀ (d : D) (v : V) (F1 H1 : Hp), Grow F H F1 H1 → Rel (km X) J F1 H1 s σ A → P F1 H1 d v → UOk (km X) W P' σ A F1 H1 Q (k d) → T v H1) : tP1 (km X) J W P m σ H T := by
  refine ⟨F, A, s, R, ?_⟩
  cases e : m s with
  | ok d =>
    rw [e] at h
    exact fun v F1 H1 g p => hk d v F1 H1 g (R.grow g) p (UOk.shift g h)
  | ex c fs => rw [e] at h; exact h
  | bad => rw [e] at h; exact h
theorem UOk.here {Q : VK} {d : D} {v : V} (s : Sub F H) (p : P F H d v) (h : UOk (km X) W P σ A F H Q (.ok d)) : Q v H := h v F H (Grow.refl s) p
theorem UOk.ofS {Q : VK} {o : Option D} (h : UOk (km X) W (pR (km X)) σ A F H Q (.of o)) {T : Prop} (k : ∀ d, o = some d → (∀ v F' H', Grow F H F' H' → Rep X.K X.mg F' d v → Q v H') → T) : T := by
  cases o with
  | none => exact h.elim
  | some d => exact k d rfl fun v F' H' g r => h v F' H' g r
/-- as the other readings -/
def mP (m : MP) : ME := fun s => match m s with
  | .ok d => .ok d s
  | .ex c fs => .ex c fs s
  | .bad => .bad
theorem ge_p {e : Expr} {m : MP} (h : PE X e (tU (km X) J W m)) : PE X e (tE (km X) J W (mP m)) := peImp h fun σ H Q ⟨F, A, s, R, q⟩ => by
  refine ⟨F, A, s, R, ?_⟩
  unfold mP at q
  cases e : m s with
  | ok d => rw [e] at q; exact fun v F1 H1 g p => q v F1 H1 A g.stp (R.grow g) p
  | ex c fs => rw [e] at q; exact fun cls dx F1 H1 g x => q cls dx F1 H1 A g.stp (R.grow g) x
  | bad => rw [e] at q; exact q
theorem gv_u {e : Expr} {m : MP} (h : PE X e (tU (km X) J W m)) : PE X e (tV (km X) J W m) := peImp h fun σ H Q ⟨F, A, s, R, q⟩ => by
  refine ⟨F, A, s, R, ?_⟩
  cases e : m s with
  | ok d => rw [e] at q; exact fun v F1 H1 g p => q v F1 H1 g (.rep g.s p)
  | ex c fs => rw [e] at q; exact q
  | bad => rw [e] at q; exact q
def pVar (i : Nat) : MP := fun s => match s[i]? with
  | some (.d d) => .ok d
  | _ => .bad
/-- a slot's datum, be it its own -/
def pVar' (i : Nat) : MP := fun s => match s[i]? with
  | some (.d d) => .ok d
  | some (.b d) => .ok d
  | _ => .bad
def pC (d : D) : MP := fun _ => .ok d
theorem gu_var {i : Nat} {x : Str} {pos : Pos} (h : PE X (.Name x pos) (tVar i)) : PE X (.Name x pos) (tU (km X) J W (pVar i)) := peImp h fun σ H Q ⟨F, A, s, R, q⟩ => by
  unfold pVar at q
  split at q
  · rename_i y hy
    obtain ⟨v, q1, q2⟩ := R.frz i _ hy
    exact ⟨v, q1, UOk.here (P := pR (km X)) R.sub q2 q⟩
  · exact q.elim
theorem gv_var {i : Nat} {x : Str} {pos : Pos} (h : PE X (.Name x pos) (tVar i)) : PE X (.Name x pos) (tV (km X) J W (pVar' i)) := peImp h fun σ H Q ⟨F, A, s, R, q⟩ => by
  unfold pVar' at q
  split at q
  · rename_i y hy
    obtain ⟨v, q1, q2⟩ := R.frz i _ hy
    exact ⟨v, q1, UOk.here (P := pV (km X)) R.sub (.rep R.sub q2) q⟩
  · rename_i y hy
    obtain ⟨fp, h1, _⟩ := R.lay
    obtain ⟨v, q1, q2⟩ := h1 i _ hy
    exact ⟨v, q1, UOk.here (P := pV (km X)) R.sub (.own q2) q⟩
  · exact q.elim
theorem gu_c {e : Expr} {v : V} {d : D} (h : PE X e (tC v)) (r : ∀ F, Rep X.K X.mg F d v) : PE X e (tU (km X) J W (pC d)) := peImp h fun σ H Q ⟨F, A, s, R, q⟩ => UOk.here (P := pR (km X)) R.sub (r F) q
theorem gu_int {i j pos} : PE X (.Constant (.int i) j pos) (tU (km X) J W (pC (.int i))) := gu_c pe_int fun _ => .int i
theorem gu_bl {b j pos} : PE X (.Constant (.bool b) j pos) (tU (km X) J W (pC (.bl b))) := gu_c pe_bl fun _ => .bl b
theorem gu_non {j pos} : PE X (.Constant .none j pos) (tU (km X) J W (pC .non)) := gu_c pe_non fun _ => .non
theorem gu_str {x j pos} : PE X (.Constant (.str x) j pos) (tU (km X) J W (pC (.str x))) := gu_c pe_str fun _ => .str x
def pOp2 (f : D → D → Option D) (a b : MP) : MP := fun s => (a s).bind fun x => (b s).bind fun y => .of (f x y)
def pOp1 (f : D → Option D) (a : MP) : MP := fun s => (a s).bind fun x => .of (f x)
theorem opU_run {Q : VK} {a b : MP} {r : R2} {f : D → D → Option D} (hs : OpS X.K X.mg r f) : tU (km X) J W (pOp2 f a b) σ H Q → tOp r (tV (km X) J W a) (tV (km X) J W b) σ H Q := fun ⟨F, A, s, R, q⟩ =>
  bindU (P := pV (km X)) (P' := pR (km X)) R q fun x vx F1 H1 g1 R1 w1 q1 => bindU (P := pV (km X)) (P' := pR (km X)) R1 q1 fun y vy F2 H2 g2 R2 w2 q2 =>
    UOk.ofS q2 fun d e k => hs F2 H2 vx vy x y d Q R2.sub (w1.grow g2) w2 e k
theorem gu_bin {a b : Expr} {op : Operator} {pos : Pos} {oa ob : MP} {r : R2} {f : D → D → Option D} (ho : OpR X (binaryOp op) r) (hs : OpS X.K X.mg r f) (ha : PE X a (tV (km X) J W oa)) (hb : PE X b (tV (km X) J W ob)) :
    PE X (.BinOp a op b pos) (tU (km X) J W (pOp2 f oa ob)) := peImp (pe_op ho ha hb) fun _ _ _ q => opU_run hs q
theorem gu_cmp {a b : Expr} {op : CmpOp} {pos : Pos} {oa ob : MP} {r : R2} {f : D → D → Option D} (ho : OpR X (compareOp op) r) (hs : OpS X.K X.mg r f) (ha : PE X a (tV (km X) J W oa)) (hb : PE X b (tV (km X) J W ob)) (hm : behindInMarks op b = false) :
    PE X (.Compare a [op] [b] pos) (tU (km X) J W (pOp2 f oa ob)) := peImp (pe_cmpR ho ha hb hm) fun _ _ _ q => opU_run hs q
theorem gu_un {a : Expr} {op : UnaryOp} {pos : Pos} {oa : MP} {r : V → Hp → VK → Prop} {f : D → Option D} (ho : UnR X (unaryOp op) r) (hs : UnS X.K X.mg r f) (ha : PE X a (tV (km X) J W oa)) :
    PE X (.UnaryOp op a pos) (tU (km X) J W (pOp1 f oa)) := peImp (pe_un ho ha) fun σ H Q ⟨F, A, s, R, q⟩ =>
  bindU (P := pV (km X)) (P' := pR (km X)) R q fun x vx F1 H1 g1 R1 w1 q1 => UOk.ofS q1 fun d e k => hs F1 H1 vx x d Q R1.sub w1 e k
theorem gu_ix {a b : Expr} {pos : Pos} {oa ob : MP} {r : R2} {f : D → D → Option D} (hr : IxR X r) (hs : OpS X.K X.mg r f) (ha : PE X a (tV (km X) J W oa)) (hb : PE X b (tV (km X) J W ob)) (hp : PlainIx b := by intro _ _; rfl) : PE X (.Subscript a b pos) (tU (km X) J W (pOp2 f oa ob)) :=
  peImp (pe_ix hr ha hb hp) fun _ _ _ q => opU_run hs q
/-- lists of them -/
inductive Prs where
  | ok (d : List D) | ex (c : Str) (fs : List (Str × D)) | bad
abbrev MPs := En → Prs
def Prs.bind (r : Prs) (k : List D → Pr) : Pr := match r with
  | .ok d => k d
  | .ex c fs => .ex c fs
  | .bad => .bad
def Pr.cons (r : Pr) (k : Prs) : Prs := match r, k with
  | .ok d, .ok ds => .ok (d :: ds)
  | .ok _, .ex c fs => .ex c fs
  | .ok _, .bad => .bad
  | .ex c fs, _ => .ex c fs
  | .bad, _ => .bad
def psNil : MPs := fun _ => .ok []
def psCons (a : MP) (b : MPs) : MPs := fun s => (a s).cons (b s)
inductive All2 (P : PV) (F H : Hp) : List D → List V → Prop
  | nil : All2 P F H [] []
  | cons {d : D} {v : V} {ds : List D} {vs : List V} : P F H d v → All2 P F H ds vs → All2 P F H (d :: ds) (v :: vs)
theorem All2.reps : ∀ {ds : List D} {vs : List V}, All2 (pR (km X)) F H ds vs → Reps X.K X.mg F ds vs
  | _, _, .nil => .nil
  | _, _, .cons h r => .cons h r.reps
theorem All2.vws : ∀ {ds : List D} {vs : List V}, All2 (pV (km X)) F H ds vs → Vws X.K X.mg F H ds vs
  | _, _, .nil => .nil
  | _, _, .cons h r => .cons h r.vws
def UsOk (X : Km) (W : WX) (P : PV) (σ : L2.St) (A : Addr → Prop) (F H : Hp) (Q : List V → Hp → Prop) : Prs → Prop
  | .ok d => ∀ (v : List V) (F' H' : Hp), Grow F H F' H' → All2 P F' H' d v → Q v H'
  | .ex c fs => ∀ (cls : Value) (dx : Option Addr) (F' H' : Hp), Grow F H F' H' → Exc X A F' H' c fs cls dx → W cls dx σ H'
  | .bad => False
def tPs (X : Km) (J : Anc) (W : WX) (P : PV) (m : MPs) : TA := fun σ H Q => ∃ (F : Hp) (A : Addr → Prop) (s : En), Rel X J F H s σ A ∧ UsOk X W P σ A F H Q (m s)
abbrev tUs (X : Km) (J : Anc) (W : WX) (m : MPs) : TA := tPs X J W (pR X) m
abbrev tVs (X : Km) (J : Anc) (W : WX) (m : MPs) : TA := tPs X J W (pV X) m
theorem gps_nil : PA X [] (tPs (km X) J W P psNil) := paImp pa_nil fun σ H Q ⟨F, A, s, R, q⟩ => q [] F H (Grow.refl R.sub) .nil
theorem gps_cons {e : Expr} {es : List Expr} {a : MP} {b : MPs} (mono : ∀ F H F' H' d v, Grow F H F' H' → P F H d v → P F' H' d v) (ha : PE X e (tP1 (km X) J W P a)) (hr : PA X es (tPs (km X) J W P b)) (hs : starEach (e :: es) X.env = (false, eval e X.env) :: starEach es X.env := by rfl) : PA X (e :: es) (tPs (km X) J W P (psCons a b)) :=
  paImp (pa_cons ha hr hs) fun σ H Q ⟨F, A, s, R, q⟩ => by
    refine ⟨F, A, s, R, ?_⟩
    unfold psCons at q
    cases e : a s with
    | bad => rw [e] at q; exact q
    | ex c fs => rw [e] at q; exact q
    | ok d =>
      rw [e] at q
      intro v F1 H1 g1 p1
      refine ⟨F1, A, s, R.grow g1, ?_⟩
      cases e2 : b s with
      | bad => rw [e2] at q; exact q
      | ex c fs => rw [e2] at q; exact fun cls dx F2 H2 g2 => q cls dx F2 H2 (g1.trans g2)
      | ok ds => rw [e2] at q; exact fun vs F2 H2 g2 p2 => q (v :: vs) F2 H2 (g1.trans g2) (.cons (mono _ _ _ _ _ _ g2 p1) p2)
theorem gus_cons {e : Expr} {es : List Expr} {a : MP} {b : MPs} (ha : PE X e (tU (km X) J W a)) (hr : PA X es (tUs (km X) J W b)) (hs : starEach (e :: es) X.env = (false, eval e X.env) :: starEach es X.env := by rfl) : PA X (e :: es) (tUs (km X) J W (psCons a b)) :=
  gps_cons (fun _ _ _ _ _ _ g p => p.mono g.f) ha hr hs
theorem gvs_cons {e : Expr} {es : List Expr} {a : MP} {b : MPs} (ha : PE X e (tV (km X) J W a)) (hr : PA X es (tVs (km X) J W b)) (hs : starEach (e :: es) X.env = (false, eval e X.env) :: starEach es X.env := by rfl) : PA X (e :: es) (tVs (km X) J W (psCons a b)) :=
  gps_cons (fun _ _ _ _ _ _ g p => p.grow g) ha hr hs
theorem bindUs {m : MPs} {k : List D → Pr} {Q : VK} {T : List V → Hp → Prop} (R : Rel (km X) J F H s σ A) (h : UOk (km X) W P' σ A F H Q ((m s).bind k))
    (hk : ∀ (d : List D) (v : List V) (F1 H1 : Hp), Grow F H F1 H1 → Rel (km X) J F1 H1 s σ A → All2 P F1 H1 d v → UOk (km X) W P' σ A F1 H1 Q (k d) → T v H1) : tPs (km X) J W P m σ H T := by
  refine ⟨F, A, s, R, ?_⟩
  cases e : m s with
  | ok d =>
    rw [e] at h
    exact fun v F1 H1 g p => hk d v F1 H1 g (R.grow g) p (UOk.shift g h)
  | ex c fs => rw [e] at h; exact h
  | bad => rw [e] at h; exact h
def pTup (m : MPs) : MP := fun s => (m s).bind fun ds => if ds.length ≤ sizeLine then .ok (.tup ds) else .bad
def pLst (m : MPs) : MP := fun s => (m s).bind fun ds => if ds.length ≤ sizeLine then .ok (.lst ds) else .bad
theorem gu_tup {es : List Expr} {x1} {pos : Pos} {m : MPs} (h : PA X es (tUs (km X) J W m)) : PE X (.Tuple es x1 pos) (tU (km X) J W (pTup m)) := peImp (pe_tup h) fun σ H Q ⟨F, A, s, R, q⟩ =>
  bindUs (P := pR (km X)) (P' := pR (km X)) R q fun ds vs F1 H1 g R1 p q1 => by
    have r := p.reps
    split at q1
    · rename_i hz
      exact ⟨by rw [← r.length]; exact hz, fun p hp => q1 _ _ _ (Grow.one R1.sub hp) (new_tup R1.sub r hp)⟩
    · exact q1.elim
theorem gu_lst {es : List Expr} {pos : Pos} {m : MPs} (h : PA X es (tUs (km X) J W m)) : PE X (.List es pos) (tU (km X) J W (pLst m)) := peImp (pe_lst h) fun σ H Q ⟨F, A, s, R, q⟩ =>
  bindUs (P := pR (km X)) (P' := pR (km X)) R q fun ds vs F1 H1 g R1 p q1 => by
    have r := p.reps
    split at q1
    · rename_i hz
      exact ⟨by rw [← r.length]; exact hz, fun p hp => q1 _ _ _ (Grow.one R1.sub hp) (new_lst R1.sub r hp)⟩
    · exact q1.elim
def pFn (f : List D → Option D) (m : MPs) : MP := fun s => (m s).bind fun ds => .of (f ds)
theorem fnU_run {Q : VK} {oa : MPs} {r : List V → Hp → VK → Prop} {f : List D → Option D} (hs : FnS X.K X.mg r f) : tU (km X) J W (pFn f oa) σ H Q → tCB r (tVs (km X) J W oa) σ H Q := fun ⟨F, A, s, R, q⟩ =>
  bindUs (P := pV (km X)) (P' := pR (km X)) R q fun ds vs F1 H1 g R1 p q1 => UOk.ofS q1 fun d e k => hs F1 H1 vs ds d Q R1.sub p.vws e k
theorem gu_callB {x : Str} {p pos : Pos} {e : Expr} {es : List Expr} {t : MPs} {id : String} {r : List V → Hp → VK → Prop} {f : List D → Option D} (hc : CallR X (.builtin id) r) (hs : FnS X.K X.mg r f) (hg : Gl X x) (hm : X.mg x = none) (hv : bootBuiltins x = some (.builtin id)) (ha : PA X (e :: es) (tVs (km X) J W t)) (hn : x ≠ "__name__" := by decide) (hdb : (x == ("__debug__" : Str)) = false := by decide)
    (he : starEach (e :: es) X.env = (false, eval e X.env) :: starEach es X.env := by rfl) (hpl : (backTo pos (starEach es X.env)).any (·.1) = false := by rfl) : PE X (.Call (.Name x p) (e :: es) [] pos) (tU (km X) J W (pFn f t)) :=
  peImp (pe_callB hc hg hm hv ha hn hdb he hpl) fun _ _ _ q => fnU_run hs q
theorem gu_callTy {x : Str} {p pos : Pos} {e : Expr} {es : List Expr} {t : MPs} {T : String} {r : List V → Hp → VK → Prop} {f : List D → Option D} (hc : CallR X (.type T) r) (hs : FnS X.K X.mg r f) (hg : Gl X x) (hm : X.mg x = none) (hv : bootBuiltins x = some (.type T)) (ha : PA X (e :: es) (tVs (km X) J W t)) (hn : x ≠ "__name__" := by decide) (hdb : (x == ("__debug__" : Str)) = false := by decide)
    (he : starEach (e :: es) X.env = (false, eval e X.env) :: starEach es X.env := by rfl) (hpl : (backTo pos (starEach es X.env)).any (·.1) = false := by rfl) : PE X (.Call (.Name x p) (e :: es) [] pos) (tU (km X) J W (pFn f t)) :=
  peImp (pe_callTy hc hg hm hv ha hn hdb he hpl) fun _ _ _ q => fnU_run hs q
/-- slices -/
inductive Prp where
  | ok (o : Option Int) | ex (c : Str) (fs : List (Str × D)) | bad
def pPart (m : MP) : En → Prp := fun s => match m s with
  | .ok (.int i) => .ok (some i)
  | .ok _ => .bad
  | .ex c fs => .ex c fs
  | .bad => .bad
def pNoPart : En → Prp := fun _ => .ok none
def tPp (X : Km) (J : Anc) (W : WX) (m : En → Prp) : TO := fun σ H Q => ∃ (F : Hp) (A : Addr → Prop) (s : En), Rel X J F H s σ A ∧ match m s with
  | .ok o => ∀ F' H', Grow F H F' H' → Q o H'
  | .ex c fs => ∀ (cls : Value) (dx : Option Addr) (F' H' : Hp), Grow F H F' H' → Exc X A F' H' c fs cls dx → W cls dx σ H'
  | .bad => False
theorem gpp_none : PO X none (tPp (km X) J W pNoPart) := poImp po_none fun σ H Q ⟨F, A, s, R, q⟩ => q F H (Grow.refl R.sub)
theorem gpp_some {e : Expr} {m : MP} (h : PE X e (tU (km X) J W m)) : PO X (some e) (tPp (km X) J W (pPart m)) := poImp (po_some h) fun σ H Q ⟨F, A, s, R, q⟩ => by
  refine ⟨F, A, s, R, ?_⟩
  unfold pPart at q
  cases e : m s with
  | bad => rw [e] at q; exact q
  | ex c fs => rw [e] at q; exact q
  | ok d =>
    rw [e] at q
    intro v F1 H1 g p
    cases d with
    | int i => cases p; exact ⟨i, rfl, q F1 H1 g⟩
    | _ => exact q.elim
def Prp.bind (r : Prp) (k : Option Int → Pr) : Pr := match r with
  | .ok o => k o
  | .ex c fs => .ex c fs
  | .bad => .bad
theorem bindP {m : En → Prp} {k : Option Int → Pr} {Q : VK} {T : Option Int → Hp → Prop} (R : Rel (km X) J F H s σ A) (h : UOk (km X) W P' σ A F H Q ((m s).bind k))
    (hk : ∀ (o : Option Int) (F1 H1 : Hp), Grow F H F1 H1 → Rel (km X) J F1 H1 s σ A → UOk (km X) W P' σ A F1 H1 Q (k o) → T o H1) : tPp (km X) J W m σ H T := by
  refine ⟨F, A, s, R, ?_⟩
  cases e : m s with
  | ok d => rw [e] at h; exact fun F1 H1 g => hk d F1 H1 g (R.grow g) (UOk.shift g h)
  | ex c fs => rw [e] at h; exact h
  | bad => rw [e] at h; exact h
def pSl (f : D → Option Int → Option Int → Option D) (oa : MP) (lo hi : En → Prp) : MP := fun s => (oa s).bind fun x => (lo s).bind fun l => (hi s).bind fun h => .of (f x l h)
theorem gu_sl {e : Expr} {lo hi : Option Expr} {ml mh : En → Prp} {oa : MP} {p2 pos : Pos} {r : V → Option Int → Option Int → Hp → VK → Prop} {f : D → Option Int → Option Int → Option D} (hr : SlR X r) (hs : SlS X.K X.mg r f) (he : PE X e (tV (km X) J W oa)) (hl : PO X lo (tPp (km X) J W ml)) (hu : PO X hi (tPp (km X) J W mh)) :
    PE X (.Subscript e (.Slice lo hi none p2) pos) (tU (km X) J W (pSl f oa ml mh)) := peImp (pe_slice hr he hl hu) fun σ H Q ⟨F, A, s, R, q⟩ =>
  bindU (P := pV (km X)) (P' := pR (km X)) R q fun x vx F1 H1 g1 R1 w1 q1 => bindP (P' := pR (km X)) R1 q1 fun l F2 H2 g2 R2 q2 => bindP (P' := pR (km X)) R2 q2 fun h F3 H3 g3 R3 q3 =>
    UOk.ofS q3 fun d e k => hs F3 H3 vx l h x d Q R3.sub (w1.grow (g2.trans g3)) e k

/-! ### fields -/
/-- the classes and their fields that the text may name -/
def FldOk (K : PySem.W.Frag) (mg : Str → Option Value) (tab : Str → Str → Bool) : Prop := ∀ (c f : Str) (C : Addr), tab c f = true → mg c = some (.ref C) → Cls K C ∧ NoAttr K C f
def VwB (K : PySem.W.Frag) (mg : Str → Option Value) (F H : Hp) (d : D) (v : V) : Prop := match d with
  | .box d => Vw K mg F H d v
  | d => Rep K mg F d v
/-- a value that may be there -/
def Oo (K : PySem.W.Frag) (mg : Str → Option Value) (F : Hp) (o : Option D) (ov : Option V) : Prop := match o with
  | some d => ∃ v, ov = some v ∧ Rep K mg F d v
  | none => ov = none
theorem OwnF.look {K : PySem.W.Frag} {mg : Str → Option Value} (s : Sub F H) {f : Str} : ∀ {fs : List (Str × D)} {vs : List (Str × V)} {B : List Addr} {d : D}, OwnF K mg F H fs vs B → fs.lookup f = some d → ∃ v, vs.lookup f = some v ∧ VwB K mg F H d v
  | _, _, _, _, .nil, e => by cases e
  | _, _, _, d, .frz (x := x) (d := d') h r, e => by
    by_cases hx : (f == x) = true
    · rw [List.lookup_cons, hx] at e ⊢
      cases e
      refine ⟨_, rfl, ?_⟩
      cases h <;> first | exact .non | exact .bl _ | exact .int _ | exact .str _ | (exact .tup (by assumption) (by assumption)) | (exact .lst (by assumption) (by assumption)) | (exact .dK (by assumption) (by assumption)) | (exact .dT (by assumption) (by assumption)) | (exact .ins (by assumption) (by assumption) (by assumption))
    · rw [Bool.not_eq_true] at hx
      rw [List.lookup_cons, hx] at e ⊢
      exact r.look s e
  | _, _, _, d, .box (x := x) (d := d') h r n, e => by
    by_cases hx : (f == x) = true
    · rw [List.lookup_cons, hx] at e ⊢
      cases e
      exact ⟨_, rfl, .own h⟩
    · rw [Bool.not_eq_true] at hx
      rw [List.lookup_cons, hx] at e ⊢
      exact r.look s e
def unbox : D → D
  | .box d => d
  | d => d
/-- e.f of a datum -/
def pFld (tab : Str → Str → Bool) (f : Str) (m : MP) : MP := fun s => (m s).bind fun x => match x with
  | .ins c fs => if tab c f = true then match fs.lookup f with
    | some (.box _) => .bad
    | some d => .ok d
    | none => .bad
    else .bad
  | _ => .bad
/-- .. be it its own -/
def pFld' (tab : Str → Str → Bool) (f : Str) (m : MP) : MP := fun s => (m s).bind fun x => match x with
  | .ins c fs => if tab c f = true then match fs.lookup f with
    | some d => .ok (unbox d)
    | none => .bad
    else .bad
  | _ => .bad
theorem gu_fld {tab : Str → Str → Bool} {e : Expr} {f : Str} {pos : Pos} {m : MP} (T : FldOk X.K X.mg tab) (he : PE X e (tV (km X) J W m)) (hb : attributeBase e f X.env (eval e X.env) = eval e X.env := by rfl) : PE X (.Attribute e f pos) (tU (km X) J W (pFld tab f m)) := peImp (pe_fld he hb) fun σ H Q ⟨F, A, s, R, q⟩ =>
  bindU (P := pV (km X)) (P' := pR (km X)) R q fun x vx F1 H1 g1 R1 w1 q1 => by
    cases x with
    | ins c fs =>
      obtain ⟨a, C, dx, xs, B, rfl, h, hm, r⟩ := w1
      dsimp only at q1
      split at q1
      · rename_i ht
        obtain ⟨c1, c2⟩ := T c f C ht hm
        cases hd : fs.lookup f with
        | none => rw [hd] at q1; exact q1.elim
        | some d =>
          rw [hd] at q1
          obtain ⟨v, e1, e2⟩ := r.look R1.sub hd
          cases d with
          | box d => exact q1.elim
          | _ => exact ⟨a, C, dx, xs, v, rfl, h, c1, c2, e1, UOk.here (P := pR (km X)) R1.sub e2 q1⟩
      · exact q1.elim
    | _ => exact q1.elim
theorem gv_fld {tab : Str → Str → Bool} {e : Expr} {f : Str} {pos : Pos} {m : MP} (T : FldOk X.K X.mg tab) (he : PE X e (tV (km X) J W m)) (hb : attributeBase e f X.env (eval e X.env) = eval e X.env := by rfl) : PE X (.Attribute e f pos) (tV (km X) J W (pFld' tab f m)) := peImp (pe_fld he hb) fun σ H Q ⟨F, A, s, R, q⟩ =>
  bindU (P := pV (km X)) (P' := pV (km X)) R q fun x vx F1 H1 g1 R1 w1 q1 => by
    cases x with
    | ins c fs =>
      obtain ⟨a, C, dx, xs, B, rfl, h, hm, r⟩ := w1
      dsimp only at q1
      split at q1
      · rename_i ht
        obtain ⟨c1, c2⟩ := T c f C ht hm
        split at q1
        · rename_i d hd
          obtain ⟨v, e1, e2⟩ := r.look R1.sub hd
          refine ⟨a, C, dx, xs, v, rfl, h, c1, c2, e1, UOk.here (P := pV (km X)) R1.sub ?_ q1⟩
          cases d with
          | box d => exact e2
          | _ => exact .rep R1.sub e2
        · exact q1.elim
      · exact q1.elim
    | _ => exact q1.elim

/-! ### dicts -/
def lookK (kvs : List (D × D)) (q : Key) : Option D := (kvs.find? fun p => decide (keyK p.1 = some q)).map (·.2)
def lookT (kvs : List (D × D)) (q : List Key) : Option D := (kvs.find? fun p => decide (keyT p.1 = some q)).map (·.2)
def dGet : D → D → Option (Option D)
  | .dct kvs, k => match keyK k with
    | some q => some (lookK kvs q)
    | none => none
  | .dtt kvs, k => match keyT k with
    | some q => some (lookT kvs q)
    | none => none
  | _, _ => none
theorem keyK_rep {K : PySem.W.Frag} {mg : Str → Option Value} {d : D} {v : V} {q : Key} (e : keyK d = some q) (w : Vw K mg F H d v) : v = kV q := by
  unfold keyK at e
  split at e
  · cases e; exact w.int
  · cases e; exact w.str
  · cases e
theorem keysK_rep {K : PySem.W.Frag} {mg : Str → Option Value} : ∀ {ds : List D} {vs : List V} {q : List Key}, keysK ds = some q → Reps K mg F ds vs → vs = q.map kV
  | _, _, _, e, .nil => by cases e; rfl
  | _, _, _, e, .cons h r => by
    unfold keysK at e
    split at e
    · rename_i e1 e2
      cases e
      rw [keysK_rep e2 r, keyK_rep (H := F) e1 (.rep (Sub.refl F) h)]; rfl
    · cases e
theorem keyT_rep {K : PySem.W.Frag} {mg : Str → Option Value} {d : D} {v : V} {q : List Key} (e : keyT d = some q) (w : Vw K mg F H d v) : ∃ a, v = .ref a ∧ SqT K F a (q.map kV) := by
  unfold keyT at e
  split at e
  · obtain ⟨a, vs, rfl, h, r⟩ := w.tup
    exact ⟨a, rfl, by rw [← keysK_rep e r]; exact h⟩
  · cases e
theorem RepK.look {K : PySem.W.Frag} {mg : Str → Option Value} (q : Key) : ∀ {kvs : List (D × D)} {xs : List (Key × V)}, RepK K mg F kvs xs → Oo K mg F (lookK kvs q) (valV xs q)
  | _, _, .nil => by simp [lookK, valV, Oo]
  | _, _, .cons (k := k) (q := q') h r t => by
    have ih := RepK.look q t
    unfold lookK at ih ⊢
    rw [List.find?_cons]
    by_cases e : q' = q
    · subst e
      have : decide (keyK k = some q') = true := by simp [h]
      rw [this]
      exact ⟨_, valV_pos rfl, r⟩
    · have : decide (keyK k = some q) = false := by simp [h, e]
      rw [this, valV_neg e]
      exact ih
theorem RepT.look {K : PySem.W.Frag} {mg : Str → Option Value} (q : List Key) : ∀ {kvs : List (D × D)} {xs : List (List Key × V)}, RepT K mg F kvs xs → Oo K mg F (lookT kvs q) (valV xs q)
  | _, _, .nil => by simp [lookT, valV, Oo]
  | _, _, .cons (k := k) (q := q') h r t => by
    have ih := RepT.look q t
    unfold lookT at ih ⊢
    rw [List.find?_cons]
    by_cases e : q' = q
    · subst e
      have : decide (keyT k = some q') = true := by simp [h]
      rw [this]
      exact ⟨_, valV_pos rfl, r⟩
    · have : decide (keyT k = some q) = false := by simp [h, e]
      rw [this, valV_neg e]
      exact ih
theorem dGet_run {K : PySem.W.Frag} {mg : Str → Option Value} (s : Sub F H) {d k : D} {x y : V} {o : Option D} (e : dGet d k = some o) (w : Vw K mg F H d x) (wk : Vw K mg F H k y) : ∃ a ov, x = .ref a ∧ DGetS K H a y ov ∧ Oo K mg F o ov := by
  cases d with
  | dct kvs =>
    obtain ⟨a, xs, rfl, h, r⟩ := w
    cases hq : keyK k with
    | none => simp [dGet, hq] at e
    | some q =>
      simp [dGet, hq] at e
      subst e
      exact ⟨a, valV xs q, rfl, .inl ⟨xs, q, h, keyK_rep hq wk, rfl⟩, r.look q⟩
  | dtt kvs =>
    obtain ⟨a, xs, rfl, h, r⟩ := w
    cases hq : keyT k with
    | none => simp [dGet, hq] at e
    | some q =>
      simp [dGet, hq] at e
      subst e
      obtain ⟨b, rfl, hb⟩ := keyT_rep hq wk
      exact ⟨a, valV xs q, rfl, .inr ⟨xs, q, b, h, rfl, s.sqT hb, rfl⟩, r.look q⟩
  | _ => simp [dGet] at e
/-- x[k] of all sorts -/
def fAt : D → D → Option D
  | .dct kvs, k => (dGet (.dct kvs) k).join
  | .dtt kvs, k => (dGet (.dtt kvs) k).join
  | x, k => fIx x k
theorem os_at {K : PySem.W.Frag} {mg : Str → Option Value} : OpS K mg (fun x y H Q => rGetD K x y H Q ∨ rIx K x y H Q) fAt := by
  intro F H x y d1 d2 d Q s v1 v2 e k
  have hd : (dGet d1 d2).join = some d → rGetD K x y H Q := fun e => by
    cases q : dGet d1 d2 with
    | none => rw [q] at e; cases e
    | some o =>
      rw [q] at e
      cases (show o = some d from e)
      obtain ⟨a, ov, rfl, g, v, rfl, r⟩ := dGet_run s q v1 v2
      exact ⟨a, v, rfl, g, k _ _ _ (Grow.refl s) r⟩
  unfold fAt at e
  split at e
  · exact .inl (hd e)
  · exact .inl (hd e)
  · exact .inr (os_ix F H x y d1 d2 d Q s v1 v2 e k)
theorem ix_at (hu : X.A.units + 1 < cLine) : IxR X (fun x y H Q => rGetD X.K x y H Q ∨ rIx X.K x y H Q) := (ix_dict hu).or ix_seq
/-- in, not in: dicts, and lists and tuples of flat items -/
def flatD : D → Bool
  | .non => true
  | .bl _ => true
  | .int _ => true
  | .str _ => true
  | _ => false
end
end Mir
namespace Mir
open PySem PySem.Spec PyProof.Rows L2

/-! ### places within a slot's own data -/
def subD (tab : Str → Str → Bool) : D → List Str → Option D
  | d, [] => some d
  | .ins c fs, f :: p => if tab c f = true then match fs.lookup f with
    | some (.box d) => subD tab d p
    | _ => none
    else none
  | _, _ :: _ => none
def mapB (f : Str) (g : D → D) : List (Str × D) → List (Str × D)
  | [] => []
  | (h, d) :: r => if f == h then (h, match d with
    | .box d => .box (g d)
    | d => d) :: r else (h, d) :: mapB f g r
def putD : D → List Str → D → D
  | _, [], e => e
  | .ins c fs, f :: p, e => .ins c (mapB f (fun d => putD d p e) fs)
  | d, _ :: _, _ => d
inductive Reach (H : Hp) : V → List Str → V → Prop
  | nil {v : V} : Reach H v [] v
  | cons {a C dx : Addr} {xs : List (Str × V)} {f : Str} {p : List Str} {v w : V} : H a = some (.ins C dx xs) → xs.lookup f = some v → Reach H v p w → Reach H (.ref a) (f :: p) w
theorem Reach.det {H : Hp} : ∀ {p : List Str} {v w w' : V}, Reach H v p w → Reach H v p w' → w = w'
  | _, _, _, _, .nil, .nil => rfl
  | _, _, _, _, .cons h l r, .cons h' l' r' => by
    rw [h] at h'; cases h'
    rw [l] at l'; cases l'
    exact r.det r'
theorem Reach.snoc {H : Hp} {a C dx : Addr} {xs : List (Str × V)} {f : Str} {w : V} (h : H a = some (.ins C dx xs)) (l : xs.lookup f = some w) : ∀ {p : List Str} {v : V}, Reach H v p (.ref a) → Reach H v (p ++ [f]) w
  | _, _, .nil => .cons h l .nil
  | _, _, .cons h' l' r => .cons h' l' (r.snoc h l)
theorem Reach.mono {H H' : Hp} (s : Sub H H') : ∀ {p : List Str} {v w : V}, Reach H v p w → Reach H' v p w
  | _, _, _, .nil => .nil
  | _, _, _, .cons h l r => .cons (s _ _ h) l (r.mono s)
theorem subD_snoc {tab : Str → Str → Bool} {f : Str} : ∀ {p : List Str} {d e : D}, subD tab d (p ++ [f]) = some e → ∃ c fs, subD tab d p = some (.ins c fs) ∧ tab c f = true ∧ fs.lookup f = some (.box e)
  | [], d, e, h => by
    cases d with
    | ins c fs =>
      simp only [List.nil_append, subD] at h
      split at h
      · rename_i ht
        cases q : fs.lookup f with
        | none => rw [q] at h; cases h
        | some x =>
          rw [q] at h
          cases x with
          | box y => simp [subD] at h; subst h; exact ⟨c, fs, rfl, ht, q⟩
          | _ => cases h
      · cases h
    | _ => simp [subD] at h
  | g :: p, d, e, h => by
    cases d with
    | ins c fs =>
      simp only [List.cons_append, subD] at h ⊢
      split at h
      · rename_i ht
        cases q : fs.lookup g with
        | none => rw [q] at h; cases h
        | some x =>
          rw [q] at h
          cases x with
          | box y =>
            obtain ⟨c', fs', e1, e2, e3⟩ := subD_snoc (p := p) h
            exact ⟨c', fs', by rw [if_pos ht]; exact e1, e2, e3⟩
          | _ => cases h
      · cases h
    | _ => simp [subD] at h
section
variable {K : PySem.W.Frag} {mg : Str → Option Value} {F H : Hp} {tab : Str → Str → Bool}
/-- a field's own container, and what comes of the whole when it is changed -/
theorem OwnF.box_at {f : Str} : ∀ {fs : List (Str × D)} {xs : List (Str × V)} {B : List Addr} {d : D}, OwnF K mg F H fs xs B → fs.lookup f = some (.box d) → ∃ v B', xs.lookup f = some v ∧ Own K mg F H d v B' ∧ (∀ a ∈ B', a ∈ B) ∧
    ∀ (H' : Hp) (g : D → D), (∀ a ∈ B, a ∉ B' → ∀ o, H a = some o → H' a = some o) → Own K mg F H' (g d) v B' → OwnF K mg F H' (mapB f g fs) xs B
  | _, _, _, _, .nil, e => by cases e
  | _, _, _, d, .frz (x := x) (d := d') h r, e => by
    by_cases hx : (f == x) = true
    · rw [List.lookup_cons, hx] at e
      cases e
      cases h
    · rw [Bool.not_eq_true] at hx
      rw [List.lookup_cons, hx] at e
      obtain ⟨v, B', e1, e2, e3, e4⟩ := r.box_at e
      refine ⟨v, B', by rw [List.lookup_cons, hx]; exact e1, e2, e3, fun H' g k o => ?_⟩
      rw [mapB, hx]
      · exact .frz h (e4 H' g k o)
      · intro d z; subst z; cases h
  | _, _, _, d, .box (x := x) (d := d') (A := A1) (B := B1) h r n, e => by
    by_cases hx : (f == x) = true
    · rw [List.lookup_cons, hx] at e
      cases e
      refine ⟨_, A1, by rw [List.lookup_cons, hx], h, fun a ha => List.mem_append_left _ ha, fun H' g k o => ?_⟩
      rw [mapB, hx]
      refine .box o (r.keep (Sub.refl _) fun a ha u hu => k a (List.mem_append_right _ ha) (fun z => n a z ha) u hu) n
    · rw [Bool.not_eq_true] at hx
      rw [List.lookup_cons, hx] at e
      obtain ⟨v, B', e1, e2, e3, e4⟩ := r.box_at e
      refine ⟨v, B', by rw [List.lookup_cons, hx]; exact e1, e2, fun a ha => List.mem_append_right _ (e3 a ha), fun H' g k o => ?_⟩
      rw [mapB, hx]
      exact .box (h.keep (Sub.refl _) fun a ha u hu => k a (List.mem_append_left _ ha) (fun z => n a ha (e3 a z)) u hu) (e4 H' g (fun a ha => k a (List.mem_append_right _ ha)) o) n
theorem Own.at : ∀ {p : List Str} {d e : D} {v : V} {B : List Addr}, Own K mg F H d v B → subD tab d p = some e → ∃ w B', Reach H v p w ∧ Own K mg F H e w B' ∧ (∀ a ∈ B', a ∈ B) ∧
    ∀ (H' : Hp) (e' : D), (∀ a ∈ B, a ∉ B' → ∀ o, H a = some o → H' a = some o) → Own K mg F H' e' w B' → Own K mg F H' (putD d p e') v B
  | [], d, e, v, B, o, h => by
    cases h
    exact ⟨v, B, .nil, o, fun a ha => ha, fun H' e' _ o' => by cases d <;> exact o'⟩
  | f :: p, d, e, v, B, o, h => by
    cases o with
    | ins h1 hm r n =>
      simp only [subD] at h
      split at h
      · rename_i ht
        split at h
        · rename_i y q
          obtain ⟨v1, B1, e1, e2, e3, e4⟩ := r.box_at q
          obtain ⟨w, B', f1, f2, f3, f4⟩ := Own.at (p := p) e2 h
          refine ⟨w, B', .cons h1 e1 f1, f2, fun a ha => List.mem_cons_of_mem _ (e3 a (f3 a ha)), fun H' e' k o' => ?_⟩
          have na : ∀ a, a ∈ B1 → a ∈ _ := e3
          refine .ins (k _ List.mem_cons_self (fun z => n (e3 _ (f3 _ z))) _ h1) hm (e4 H' (fun d => putD d p e') (fun a ha hn => k a (List.mem_cons_of_mem _ ha) (fun z => hn (f3 a z))) ?_) n
          exact f4 H' e' (fun a ha hn => k a (List.mem_cons_of_mem _ (e3 a ha)) hn) o'
        · cases h
      · cases h
    | lst _ _ => simp [subD] at h
    | dK _ _ => simp [subD] at h
    | dT _ _ => simp [subD] at h
end

section
variable {X : Km} {J : Anc} {σ : L2.St} {A : Addr → Prop} {F F' H H' : Hp} {s : En} {i : Nat} {v : V} {d : D}
/-- a slot's own data are changed at p; Bx comes in -/
theorem Rel.wr {p : Addr} {o' : HO} {d' : D} {Bx : List Addr} (R : Rel X J F H s σ A) (hs : s[i]? = some (.b d)) (hv : σ[i]? = some (some v)) (hp : ∀ B, Own X.K X.mg F H d v B → p ∈ B) (hx : ∀ a ∈ Bx, F a = none ∧ ¬ A a ∧ Mut (H a))
    (new : ∀ B, Own X.K X.mg F H d v B → (∀ a ∈ B, F a = none ∧ A a) → ∃ B', Own X.K X.mg F (L2.upd H p o') d' v B' ∧ p ∈ B' ∧ ∀ a ∈ B', a ∈ B ∨ a ∈ Bx) :
    Rel X J F (L2.upd H p o') (s.set i (.b d')) σ (fun a => A a ∨ a ∈ Bx) ∧ ∀ A' F0 H0, Stp A' F0 H0 A F H → (∀ a ∈ Bx, A' a ∨ H0 a = none) → Stp A' F0 H0 (fun a => A a ∨ a ∈ Bx) F (L2.upd H p o') := by
  obtain ⟨fp, h1, h2, h3⟩ := R.lay
  obtain ⟨v', q1, q2⟩ := h1 i d hs
  rw [hv] at q1; cases q1
  have pB := hp _ q2
  have pA := h3 i p pB
  have pF := R.free p pA
  have pM := q2.mut p pB
  obtain ⟨B', n1, n0, n2⟩ := new _ q2 fun a ha => ⟨R.free a (h3 i a ha), h3 i a ha⟩
  have hl : i < s.length := (List.getElem?_eq_some_iff.mp hs).1
  have mu : ∀ a, A a ∨ a ∈ Bx → Mut (L2.upd H p o' a) := fun a ha => by
    by_cases e : a = p
    · rw [e]; exact n1.mut p n0
    · rw [upd_ne e]
      rcases ha with ha | ha
      · exact R.there a ha
      · exact (hx a ha).2.2
  refine ⟨⟨fun a o h => ?_, fun j e h => ?_, ⟨fset fp i B', fun j e h => ?_, fset_apart h2 fun j a hj ha z => ?_, fun j a hj => ?_⟩, fun a ha => ha.elim (R.free a) fun z => (hx a z).1, mu, fun j c fs h => ?_, R.anch, by rw [List.length_set]; exact R.len⟩, fun A' F0 H0 S hb => ⟨fun a o h n => ?_, S.mono, S.new, fun a h => h.elim (S.own a) (hb a)⟩⟩
  · rw [upd_ne (ne_of_none h pF)]; exact R.sub a o h
  · rcases getD_set h with ⟨rfl, hl, q⟩ | ⟨n, q⟩
    · cases q
    · exact R.frz j e q
  · rcases getD_set h with ⟨rfl, hl, q⟩ | ⟨n, q⟩
    · cases q
      exact ⟨v, hv, by rw [fset_same]; exact n1⟩
    · obtain ⟨u, r1, r2⟩ := h1 j e q
      refine ⟨u, r1, ?_⟩
      rw [fset_ne n]
      refine r2.keep (Sub.refl _) fun a ha o h => ?_
      have : a ≠ p := fun z => n (h2 j i p (z ▸ ha) pB)
      rw [upd_ne this]; exact h
  · rcases n2 a z with y | y
    · exact hj (h2 j i a ha y)
    · exact (hx a y).2.1 (h3 j a ha)
  · by_cases ej : j = i
    · rw [ej, fset_same] at hj
      exact (n2 a hj).imp (h3 i a) id
    · rw [fset_ne ej] at hj; exact .inl (h3 j a hj)
  · rcases getD_set h with ⟨rfl, hl, q⟩ | ⟨n, q⟩
    · cases q
    · obtain ⟨a, oe, C, q1, q2, q3, q4, q5⟩ := R.exn j c fs q
      refine ⟨a, oe, C, q1, q2, q3, q4, q5.imp id ?_⟩
      rintro ⟨f, d', dx, w, e1, e2, e3, e4, e5⟩
      have : dx ≠ p := fun z => by rw [z] at e3; rw [e3] at pM; exact pM
      refine ⟨f, d', dx, w, e1, e2, by rw [upd_ne this]; exact e3, fun z => ?_, e5⟩
      rcases z with z | z
      · exact e4 z
      · have m := (hx dx z).2.2
        rw [e3] at m; exact m
  · have : a ≠ p := fun z => by
      subst z
      rcases S.own a pA with q | q
      · exact n q
      · rw [q] at h; cases h
    rw [upd_ne this]; exact S.keep a o h n
end

/-! ### paths -/
section
variable {X : Cx} {J : Anc} {W : WX} {σ : L2.St} {A A1 : Addr → Prop} {F H F1 H1 : Hp} {s : En} {tab : Str → Str → Bool} {i : Nat} {p : List Str}
/-- the place p of slot i -/
def tPth (X : Km) (J : Anc) (tab : Str → Str → Bool) (i : Nat) (p : List Str) : TE := fun σ H Q => ∃ (F : Hp) (A : Addr → Prop) (s : En) (d e : D), Rel X J F H s σ A ∧ s[i]? = some (.b d) ∧ subD tab d p = some e ∧ ∀ v0 v, σ[i]? = some (some v0) → Reach H v0 p v → Q v H
theorem gp_var {x : Str} {pos : Pos} (h : PE X (.Name x pos) (tVar i)) : PE X (.Name x pos) (tPth (km X) J tab i []) := peImp h fun σ H Q ⟨F, A, s, d, e, R, hs, he, k⟩ => by
  obtain ⟨fp, h1, _⟩ := R.lay
  obtain ⟨v, q1, q2⟩ := h1 i _ hs
  exact ⟨v, q1, k v v q1 .nil⟩
theorem gp_fld {f : Str} {o : Expr} {pos : Pos} (T : FldOk X.K X.mg tab) (h : PE X o (tPth (km X) J tab i p)) (hb : attributeBase o f X.env (eval o X.env) = eval o X.env := by rfl) : PE X (.Attribute o f pos) (tPth (km X) J tab i (p ++ [f])) := peImp (pe_fld h hb) fun σ H Q ⟨F, A, s, d, e, R, hs, he, k⟩ => by
  obtain ⟨c, fs, e1, e2, e3⟩ := subD_snoc he
  refine ⟨F, A, s, d, _, R, hs, e1, fun v0 v hv r => ?_⟩
  obtain ⟨fp, h1, _⟩ := R.lay
  obtain ⟨v', q1, q2⟩ := h1 i _ hs
  rw [hv] at q1; cases q1
  obtain ⟨w, B', r1, r2, _⟩ := q2.at e1
  have := r.det r1
  subst this
  cases r2 with
  | ins h1 hm r2 n =>
    obtain ⟨c1, c2⟩ := T c f _ e2 hm
    obtain ⟨u, B1, l1, _⟩ := r2.box_at e3
    exact ⟨_, _, _, _, u, rfl, h1, c1, c2, l1, k v0 u hv (r.snoc h1 l1)⟩
/-- the place, its own data, and what may be done -/
theorem Rel.place {d e : D} {v0 : V} (R : Rel (km X) J F H s σ A) (hs : s[i]? = some (.b d)) (he : subD tab d p = some e) (hv : σ[i]? = some (some v0)) : ∃ v, Reach H v0 p v ∧ (∃ B, Own X.K X.mg F H e v B ∧ ∀ a ∈ B, F a = none ∧ A a) ∧
    ∀ (b : Addr) (o' : HO) (e' : D), v = .ref b → (∀ B, Own X.K X.mg F H e v B → b ∈ B ∧ Own X.K X.mg F (L2.upd H b o') e' v B) →
      Rel (km X) J F (L2.upd H b o') (s.set i (.b (putD d p e'))) σ A ∧ Stp A F H A F (L2.upd H b o') := by
  obtain ⟨fp, h1, _, h3⟩ := R.lay
  obtain ⟨v', q1, q2⟩ := h1 i _ hs
  rw [hv] at q1; cases q1
  obtain ⟨v, B, r1, r2, r3, _⟩ := q2.at he
  refine ⟨v, r1, ⟨B, r2, fun a ha => ⟨R.free a (h3 i a (r3 a ha)), h3 i a (r3 a ha)⟩⟩, fun b o' e' ev new => ?_⟩
  have W := R.wr (p := b) (o' := o') (d' := putD d p e') (Bx := []) hs hv (fun B0 ow => ?_) (fun a ha => by cases ha) (fun B0 ow k => ?_)
  · obtain ⟨W1, W2⟩ := W
    have e0 : (fun a => A a ∨ a ∈ ([] : List Addr)) = A := by funext a; simp
    rw [e0] at W1 W2
    exact ⟨W1, W2 A F H Stp.refl fun a ha => by cases ha⟩
  · obtain ⟨w, B1, t1, t2, t3, _⟩ := ow.at he
    have := r1.det t1
    subst this
    exact t3 b (new B1 t2).1
  · obtain ⟨w, B1, t1, t2, t3, t4⟩ := ow.at he
    have := r1.det t1
    subst this
    obtain ⟨n1, n2⟩ := new B1 t2
    refine ⟨B0, t4 _ e' (fun a ha hn o h => ?_) n2, t3 b n1, fun a ha => .inl ha⟩
    have : a ≠ b := fun z => hn (z ▸ n1)
    rw [L2.upd_ne this]; exact h
end
end Mir
namespace Mir
open PySem PySem.Spec PyProof.Rows L2

/-! ### x[k] = e -/
def putKD (kvs : List (D × D)) (q : Key) (k d : D) : List (D × D) := if (kvs.any fun p => decide (keyK p.1 = some q)) = true then kvs.map (fun p => if keyK p.1 = some q then (p.1, d) else p) else kvs ++ [(k, d)]
def putTD (kvs : List (D × D)) (q : List Key) (k d : D) : List (D × D) := if (kvs.any fun p => decide (keyT p.1 = some q)) = true then kvs.map (fun p => if keyT p.1 = some q then (p.1, d) else p) else kvs ++ [(k, d)]
section
variable {K : PySem.W.Frag} {mg : Str → Option Value} {F H : Hp}
theorem RepK.length : ∀ {kvs : List (D × D)} {xs : List (Key × V)}, RepK K mg F kvs xs → kvs.length = xs.length
  | _, _, .nil => rfl
  | _, _, .cons _ _ t => congrArg Nat.succ t.length
theorem RepT.length : ∀ {kvs : List (D × D)} {xs : List (List Key × V)}, RepT K mg F kvs xs → kvs.length = xs.length
  | _, _, .nil => rfl
  | _, _, .cons _ _ t => congrArg Nat.succ t.length
theorem RepK.any (q : Key) : ∀ {kvs : List (D × D)} {xs : List (Key × V)}, RepK K mg F kvs xs → (kvs.any fun p => decide (keyK p.1 = some q)) = xs.any fun p => decide (p.1 = q)
  | _, _, .nil => rfl
  | _, _, .cons h _ t => by rw [List.any_cons, List.any_cons, t.any q, h]; simp
theorem RepT.any (q : List Key) : ∀ {kvs : List (D × D)} {xs : List (List Key × V)}, RepT K mg F kvs xs → (kvs.any fun p => decide (keyT p.1 = some q)) = xs.any fun p => decide (p.1 = q)
  | _, _, .nil => rfl
  | _, _, .cons h _ t => by rw [List.any_cons, List.any_cons, t.any q, h]; simp
theorem RepK.repl {q : Key} {d : D} {v : V} (r : Rep K mg F d v) : ∀ {kvs : List (D × D)} {xs : List (Key × V)}, RepK K mg F kvs xs → RepK K mg F (kvs.map fun p => if keyK p.1 = some q then (p.1, d) else p) (xs.map fun p => if p.1 = q then (p.1, v) else p)
  | _, _, .nil => .nil
  | _, _, .cons (k := k) (q := q') h r' t => by
    rw [List.map_cons, List.map_cons]
    by_cases e : q' = q
    · rw [if_pos (show keyK (k, _).1 = some q from by rw [h, e]), if_pos (show (q', _).1 = q from e)]
      exact .cons h r (t.repl r)
    · rw [if_neg (show ¬ keyK (k, _).1 = some q from by rw [h]; simpa using e), if_neg (show ¬ (q', _).1 = q from e)]
      exact .cons h r' (t.repl r)
theorem RepT.repl {q : List Key} {d : D} {v : V} (r : Rep K mg F d v) : ∀ {kvs : List (D × D)} {xs : List (List Key × V)}, RepT K mg F kvs xs → RepT K mg F (kvs.map fun p => if keyT p.1 = some q then (p.1, d) else p) (xs.map fun p => if p.1 = q then (p.1, v) else p)
  | _, _, .nil => .nil
  | _, _, .cons (k := k) (q := q') h r' t => by
    rw [List.map_cons, List.map_cons]
    by_cases e : q' = q
    · rw [if_pos (show keyT (k, _).1 = some q from by rw [h, e]), if_pos (show (q', _).1 = q from e)]
      exact .cons h r (t.repl r)
    · rw [if_neg (show ¬ keyT (k, _).1 = some q from by rw [h]; simpa using e), if_neg (show ¬ (q', _).1 = q from e)]
      exact .cons h r' (t.repl r)
theorem RepK.snoc {q : Key} {k d : D} {v : V} (h : keyK k = some q) (r : Rep K mg F d v) : ∀ {kvs : List (D × D)} {xs : List (Key × V)}, RepK K mg F kvs xs → RepK K mg F (kvs ++ [(k, d)]) (xs ++ [(q, v)])
  | _, _, .nil => .cons h r .nil
  | _, _, .cons h' r' t => .cons h' r' (t.snoc h r)
theorem RepT.snoc {q : List Key} {k d : D} {v : V} (h : keyT k = some q) (r : Rep K mg F d v) : ∀ {kvs : List (D × D)} {xs : List (List Key × V)}, RepT K mg F kvs xs → RepT K mg F (kvs ++ [(k, d)]) (xs ++ [(q, v)])
  | _, _, .nil => .cons h r .nil
  | _, _, .cons h' r' t => .cons h' r' (t.snoc h r)
theorem RepK.put {q : Key} {k d : D} {v : V} {kvs : List (D × D)} {xs : List (Key × V)} (t : RepK K mg F kvs xs) (h : keyK k = some q) (r : Rep K mg F d v) : RepK K mg F (putKD kvs q k d) (putK xs q v) := by
  unfold putKD putK
  rw [t.any q]
  split
  · exact t.repl r
  · exact t.snoc h r
theorem RepT.put {q : List Key} {k d : D} {v : V} {kvs : List (D × D)} {xs : List (List Key × V)} (t : RepT K mg F kvs xs) (h : keyT k = some q) (r : Rep K mg F d v) : RepT K mg F (putTD kvs q k d) (putK xs q v) := by
  unfold putTD putK
  rw [t.any q]
  split
  · exact t.repl r
  · exact t.snoc h r
end
def stI : D → D → D → Option D
  | .lst ds, .int k, d => (ixN ds.length k).map fun j => .lst (ds.set j d)
  | .dct kvs, k, d => match keyK k with
    | some q => if kvs.length < sizeLine then some (.dct (putKD kvs q k d)) else none
    | none => none
  | .dtt kvs, k, d => match keyT k with
    | some q => if kvs.length < sizeLine then some (.dtt (putTD kvs q k d)) else none
    | none => none
  | _, _, _ => none
def rSetA : TSet := fun o i v H Q => rSetL o i v H Q ∨ rSetD o i v H Q
theorem set_any {X : Cx} (hu : X.A.units + 1 < cLine) : PSet X rSetA := by
  intro pins s σ H o i v ov iv u Q I ro ri rv h
  rcases h with h | h
  · exact set_list pins s σ H o i v ov iv u Q I ro ri rv h
  · exact set_dict hu pins s σ H o i v ov iv u Q I ro ri rv h
section
variable {X : Cx} {J : Anc} {W : WX} {σ : L2.St} {A : Addr → Prop} {F H : Hp} {s : En} {tab : Str → Str → Bool} {i : Nat} {p : List Str}
/-- a key: a tuple is one just made -/
abbrev pK (X : Km) : PV := fun F H d v => Rep X.K X.mg F d v ∧ ∀ q, keyT d = some q → ∃ b, v = .ref b ∧ H b = some (.tup (q.map kV))
def pFlat (m : MP) : MP := fun s => (m s).bind fun d => match keyT d with
  | some _ => .bad
  | none => .ok d
theorem gk_u {e : Expr} {m : MP} (h : PE X e (tU (km X) J W m)) : PE X e (tP1 (km X) J W (pK (km X)) (pFlat m)) := peImp h fun σ H Q ⟨F, A, s, R, q⟩ =>
  bindU (P := pR (km X)) (P' := pK (km X)) R q fun d v F1 H1 g R1 p q1 => by
    cases e : keyT d with
    | some _ => rw [e] at q1; exact q1.elim
    | none => rw [e] at q1; exact UOk.here (P := pK (km X)) R1.sub ⟨p, fun q z => by rw [e] at z; cases z⟩ q1
theorem gk_tup {es : List Expr} {x1} {pos : Pos} {m : MPs} (h : PA X es (tUs (km X) J W m)) : PE X (.Tuple es x1 pos) (tP1 (km X) J W (pK (km X)) (pTup m)) := peImp (pe_tup h) fun σ H Q ⟨F, A, s, R, q⟩ =>
  bindUs (P := pR (km X)) (P' := pK (km X)) R q fun ds vs F1 H1 g R1 p q1 => by
    have r := p.reps
    split at q1
    · rename_i hz
      refine ⟨by rw [← r.length]; exact hz, fun p hp => q1 _ _ _ (Grow.one R1.sub hp) ⟨new_tup R1.sub r hp, fun q hq => ⟨p, rfl, ?_⟩⟩⟩
      rw [L2.upd_same, keysK_rep (show keysK ds = some q from hq) r]
    · exact q1.elim
/-- the place, told -/
def atP (tab : Str → Str → Bool) (i : Nat) (p : List Str) (s : En) : Option (D × D) := match s[i]? with
  | some (.b d) => match subD tab d p with
    | some c => some (d, c)
    | none => none
  | _ => none
theorem atP_some {d c : D} (h : atP tab i p s = some (d, c)) : s[i]? = some (.b d) ∧ subD tab d p = some c := by
  unfold atP at h
  split at h
  · rename_i d' hd
    split at h
    · rename_i c' hc; cases h; exact ⟨hd, hc⟩
    · cases h
  · cases h
def Pr.out (r : Pr) (s : En) (k : D → Out) : Out := match r with
  | .ok d => k d
  | .ex c fs => .ex c fs s
  | .bad => .bad
def mSetI (tab : Str → Str → Bool) (i : Nat) (p : List Str) (mk : MP) (me : ME) : MS := fun s => (me s).out fun d s1 => match atP tab i p s1 with
  | some (d0, c) => (mk s1).out s1 fun k => match stI c k d with
    | some c' => .nx (s1.set i (.b (putD d0 p c')))
    | none => .bad
  | none => .bad
theorem bindPS {P : PV} {D0 : Ends} {m : MP} {k : D → Out} {T : VK} (R : Rel (km X) J F H s σ A) (h : SOk (km X) J W D0 A F H ((m s).out s k))
    (hk : ∀ (d : D) (v : V) (F1 H1 : Hp), Grow F H F1 H1 → Rel (km X) J F1 H1 s σ A → P F1 H1 d v → SOk (km X) J W D0 A F1 H1 (k d) → T v H1) : tP1 (km X) J W P m σ H T := by
  refine ⟨F, A, s, R, ?_⟩
  cases e : m s with
  | ok d => rw [e] at h; exact fun v F1 H1 g p => hk d v F1 H1 g (R.grow g) p (SOk.shift g.stp h)
  | ex c fs => rw [e] at h; exact fun cls dx F1 H1 g x => h cls dx σ F1 H1 A g.stp (R.grow g) x
  | bad => rw [e] at h; exact h
theorem gs_setI {o k e : Expr} {pt pos : Pos} {mk : MP} {me : ME} (hu : X.A.units + 1 < cLine) (ho : PE X o (tPth (km X) J tab i p)) (hk : PE X k (tP1 (km X) J W (pK (km X)) mk)) (he : PE X e (tE (km X) J W me)) (hs : swapsWithSole [.Subscript o k pt] e pos.line X.env = pure false := by rfl) (hw : swappedStores [.Subscript o k pt] e X.env = pure none := by rfl)
    (h1 : (assignEach [.Subscript o k pt] X.env).map (·.2) = [assign (.Subscript o k pt) X.env] := by rfl)
    (ha : ∀ v, assign (.Subscript o k pt) X.env v = (do
      let ov ← holding [v] (eval o X.env)
      let iv ← holding [v, ov] (eval k X.env)
      standAt pt
      holding [v, ov, iv] (setItem ov iv v)
      release [v, ov, iv] []) := by intro _; rfl) : PS X (.Assign [.Subscript o k pt] e pos) (tS (km X) J W (mSetI tab i p mk me)) :=
  psImp (ps_asg he (pg_sub ho hk (set_any hu) ha) hs hw h1) fun D σ H ⟨F, A, s, R, q⟩ =>
    bindS (P := PRep (km X)) R q fun d s1 v F1 H1 A1 S1 R1 p1 q1 => by
      split at q1
      · rename_i d0 c hp
        obtain ⟨hs, hc⟩ := atP_some hp
        refine ⟨F1, A1, s1, d0, c, R1, hs, hc, fun v0 w hv hr => ?_⟩
        refine bindPS (P := pK (km X)) R1 q1 fun kd kv F2 H2 g2 R2 p2 q2 => ?_
        split at q2
        · rename_i c' hc'
          obtain ⟨w', r1, ⟨B, ow, hB⟩, wr⟩ := R2.place hs hc hv
          have := r1.det (hr.mono g2.h)
          subst this
          have go : ∀ (b : Addr) (o' : HO), w' = .ref b → Own X.K X.mg F2 (L2.upd H2 b o') c' w' [b] → (∀ B, Own X.K X.mg F2 H2 c w' B → B = [b]) → D.nx σ (L2.upd H2 b o') := fun b o' e1 e2 e3 => by
            obtain ⟨R3, S3⟩ := wr b o' c' e1 fun B ow => by rw [e3 B ow]; exact ⟨List.mem_singleton.mpr rfl, e2⟩
            exact q2 σ F2 _ A1 S3 R3
          have rd := p1.mono g2.f
          cases ow with
          | lst h r =>
            rename_i ds vs a
            cases kd with
            | int n =>
              cases p2.1
              cases hj : ixN ds.length n with
              | none => simp [stI, hj] at hc'
              | some j =>
                simp [stI, hj] at hc'
                subst hc'
                refine .inl ⟨a, vs, n, j, rfl, rfl, h, by rw [← r.length]; exact hj, go a _ rfl (.lst L2.upd_same (r.set rd j)) fun B ow => ?_⟩
                cases ow; rfl
            | _ => simp [stI] at hc'
          | dK h r =>
            rename_i ds vs a
            cases hq : keyK kd with
            | none => simp [stI, hq] at hc'
            | some qk =>
              simp [stI, hq] at hc'
              obtain ⟨hz, rfl⟩ := hc'
              refine .inr ⟨a, _, rfl, .inl ⟨vs, qk, h, keyK_rep hq (.rep R2.sub p2.1), by rw [← r.length]; exact hz, rfl⟩, go a _ rfl (.dK L2.upd_same (r.put hq rd)) fun B ow => ?_⟩
              cases ow; rfl
          | dT h r =>
            rename_i ds vs a
            cases hq : keyT kd with
            | none => simp [stI, hq] at hc'
            | some qk =>
              simp [stI, hq] at hc'
              obtain ⟨hz, rfl⟩ := hc'
              obtain ⟨b, eb, hb⟩ := p2.2 _ hq
              refine .inr ⟨a, _, rfl, .inr ⟨vs, qk, b, h, eb, hb, by rw [← r.length]; exact hz, rfl⟩, go a _ rfl (.dT L2.upd_same (r.put hq rd)) fun B ow => ?_⟩
              cases ow; rfl
          | ins _ _ _ _ => simp [stI] at hc'
        · exact q2.elim
      · exact q1.elim

/-! ### methods of lists -/
/-- what a method does: its result, and the list behind it -/
def MtS (K : PySem.W.Frag) (mg : Str → Option Value) (r : V → List V → Hp → VK → Prop) (f : List D → List D → Option (D × List D)) : Prop := ∀ (F H : Hp) (a : Addr) (xs vs : List V) (cs ds cs' : List D) (d : D) (Q : VK), Sub F H → H a = some (.lst xs) → Reps K mg F cs xs → Vws K mg F H ds vs → f cs ds = some (d, cs') →
  (∀ v xs', Rep K mg F d v → Reps K mg F cs' xs' → Q v (L2.upd H a (.lst xs'))) → r (.ref a) vs H Q
def mMt (f : List D → List D → Option (D × List D)) (tab : Str → Str → Bool) (i : Nat) (p : List Str) (m : MPs) : ME := fun s => match atP tab i p s with
  | some (d0, .lst cs) => match m s with
    | .ok ds => match f cs ds with
      | some (d, cs') => .ok d (s.set i (.b (putD d0 p (.lst cs'))))
      | none => .bad
    | .ex c fs => .ex c fs s
    | .bad => .bad
  | _ => .bad
theorem mt_run {Q : VK} {f : List D → List D → Option (D × List D)} {r : V → List V → Hp → VK → Prop} {m : MPs} (hs : MtS X.K X.mg r f) : tE (km X) J W (mMt f tab i p m) σ H Q →
    tPth (km X) J tab i p σ H fun x H1 => tyV X.K "list" x H1 ∧ tVs (km X) J W m σ H1 fun xs H2 => r x xs H2 Q := fun ⟨F, A, s, R, q⟩ => by
  unfold mMt at q
  split at q
  · rename_i d0 cs hp
    obtain ⟨hs', hc⟩ := atP_some hp
    refine ⟨F, A, s, d0, .lst cs, R, hs', hc, fun v0 w hv hr => ?_⟩
    obtain ⟨w1, r1, ⟨B, ow, hB⟩, wr1⟩ := R.place hs' hc hv
    have := r1.det hr
    subst this
    cases ow with
    | lst h rr =>
      rename_i xs a
      refine ⟨.inl ⟨rfl, xs, .of h⟩, F, A, s, R, ?_⟩
      cases em : m s with
      | bad => rw [em] at q; exact q
      | ex c fs => rw [em] at q; exact fun cls dx F1 H1 g x => q cls dx F1 H1 A g.stp (R.grow g) x
      | ok ds =>
        rw [em] at q
        dsimp only at q
        intro vs F2 H2 g2 p2
        cases hf : f cs ds with
        | none => rw [hf] at q; exact q.elim
        | some rs =>
          obtain ⟨d, cs'⟩ := rs
          rw [hf] at q
          have R2 := R.grow g2
          obtain ⟨w2, r2, _, wr⟩ := R2.place hs' hc hv
          have := r2.det (hr.mono g2.h)
          subst this
          refine hs F2 H2 a xs vs cs ds cs' d Q R2.sub (g2.h _ _ h) (rr.mono g2.f) p2.vws hf fun v xs' rv rx => ?_
          obtain ⟨R3, S3⟩ := wr a (.lst xs') (.lst cs') rfl fun B ow => by
            cases ow
            exact ⟨List.mem_singleton.mpr rfl, .lst L2.upd_same rx⟩
          exact q v F2 _ A (g2.stp.trans S3) R3 rv
  · exact q.elim
theorem ge_mt {o e : Expr} {es : List Expr} {name : Str} {apos cpos : Pos} {id : String} {r : V → List V → Hp → VK → Prop} {f : List D → List D → Option (D × List D)} {m : MPs} (slot : Slot "list" name id) (hty : typeOf (.builtin id) = pure (.type "method_descriptor")) (hm : MtR X id r) (hs : MtS X.K X.mg r f) (ho : PE X o (tPth (km X) J tab i p)) (ha : PA X (e :: es) (tVs (km X) J W m))
    (hbase : attributeBase o name X.env (eval o X.env) = eval o X.env := by rfl)
    (hfew : ((backTo cpos (starEach (e :: es) X.env)).all (fun x => !x.1) && (backToKw cpos (keywordEach [] X.env)).all (fun x => x.1.isSome)
      && decide ((e :: es).length + ([] : List Keyword).length + (if ([] : List Keyword).isEmpty then 0 else 1) < 30)) = true := by rfl)
    (hline : (apos.endLine == cpos.line) = true := by rfl) (hst : starEach (e :: es) X.env = (false, eval e X.env) :: starEach es X.env := by rfl) (hplain : (backTo cpos (starEach es X.env)).any (·.1) = false := by rfl) :
    PE X (.Call (.Attribute o name apos) (e :: es) [] cpos) (tE (km X) J W (mMt f tab i p m)) :=
  peImp (pe_bm PySem.F.plainAttrs_list slot hty hm ho ha hbase hfew hline hst hplain) fun _ _ _ q => mt_run hs q
theorem Reps.snoc {K : PySem.W.Frag} {mg : Str → Option Value} {F : Hp} {ds : List D} {vs : List V} {d : D} {v : V} (r : Reps K mg F ds vs) (h : Rep K mg F d v) : Reps K mg F (ds ++ [d]) (vs ++ [v]) := r.append (.cons h .nil)
/-- x.append(e): the arguments are data -/
def MtU (K : PySem.W.Frag) (mg : Str → Option Value) (r : V → List V → Hp → VK → Prop) (f : List D → List D → Option (D × List D)) : Prop := ∀ (F H : Hp) (a : Addr) (xs vs : List V) (cs ds cs' : List D) (d : D) (Q : VK), Sub F H → H a = some (.lst xs) → Reps K mg F cs xs → Reps K mg F ds vs → f cs ds = some (d, cs') →
  (∀ v xs', Rep K mg F d v → Reps K mg F cs' xs' → Q v (L2.upd H a (.lst xs'))) → r (.ref a) vs H Q
theorem mtU_run {Q : VK} {f : List D → List D → Option (D × List D)} {r : V → List V → Hp → VK → Prop} {m : MPs} (hs : MtU X.K X.mg r f) : tE (km X) J W (mMt f tab i p m) σ H Q →
    tPth (km X) J tab i p σ H fun x H1 => tyV X.K "list" x H1 ∧ tUs (km X) J W m σ H1 fun xs H2 => r x xs H2 Q := fun ⟨F, A, s, R, q⟩ => by
  unfold mMt at q
  split at q
  · rename_i d0 cs hp
    obtain ⟨hs', hc⟩ := atP_some hp
    refine ⟨F, A, s, d0, .lst cs, R, hs', hc, fun v0 w hv hr => ?_⟩
    obtain ⟨w1, r1, ⟨B, ow, hB⟩, wr1⟩ := R.place hs' hc hv
    have := r1.det hr
    subst this
    cases ow with
    | lst h rr =>
      rename_i xs a
      refine ⟨.inl ⟨rfl, xs, .of h⟩, F, A, s, R, ?_⟩
      cases em : m s with
      | bad => rw [em] at q; exact q
      | ex c fs => rw [em] at q; exact fun cls dx F1 H1 g x => q cls dx F1 H1 A g.stp (R.grow g) x
      | ok ds =>
        rw [em] at q
        dsimp only at q
        intro vs F2 H2 g2 p2
        cases hf : f cs ds with
        | none => rw [hf] at q; exact q.elim
        | some rs =>
          obtain ⟨d, cs'⟩ := rs
          rw [hf] at q
          have R2 := R.grow g2
          obtain ⟨w2, r2, _, wr⟩ := R2.place hs' hc hv
          have := r2.det (hr.mono g2.h)
          subst this
          refine hs F2 H2 a xs vs cs ds cs' d Q R2.sub (g2.h _ _ h) (rr.mono g2.f) p2.reps hf fun v xs' rv rx => ?_
          obtain ⟨R3, S3⟩ := wr a (.lst xs') (.lst cs') rfl fun B ow => by
            cases ow
            exact ⟨List.mem_singleton.mpr rfl, .lst L2.upd_same rx⟩
          exact q v F2 _ A (g2.stp.trans S3) R3 rv
  · exact q.elim
def fApp : List D → List D → Option (D × List D) := fun cs ds => match ds with
  | [d] => if cs.length < sizeLine then some (.non, cs ++ [d]) else none
  | _ => none
theorem mu_app {K : PySem.W.Frag} {mg : Str → Option Value} : MtU K mg rAppend fApp := by
  intro F H a xs vs cs ds cs' d Q s h r rv e k
  unfold fApp at e
  split at e
  · split at e
    · rename_i hz
      cases e
      cases rv with
      | cons h1 r1 =>
        cases r1
        exact ⟨a, xs, _, rfl, rfl, h, by rw [← r.length]; exact hz, k _ _ .non (r.snoc h1)⟩
    · cases e
  · cases e
theorem ge_app {o e : Expr} {apos cpos : Pos} {m : MPs} (ho : PE X o (tPth (km X) J tab i p)) (ha : PA X [e] (tUs (km X) J W m))
    (hbase : attributeBase o "append" X.env (eval o X.env) = eval o X.env := by rfl)
    (hfew : ((backTo cpos (starEach [e] X.env)).all (fun x => !x.1) && (backToKw cpos (keywordEach [] X.env)).all (fun x => x.1.isSome)
      && decide ([e].length + ([] : List Keyword).length + (if ([] : List Keyword).isEmpty then 0 else 1) < 30)) = true := by rfl)
    (hline : (apos.endLine == cpos.line) = true := by rfl) (hst : starEach [e] X.env = (false, eval e X.env) :: starEach [] X.env := by rfl) (hplain : (backTo cpos (starEach [] X.env)).any (·.1) = false := by rfl) :
    PE X (.Call (.Attribute o "append" apos) [e] [] cpos) (tE (km X) J W (mMt fApp tab i p m)) :=
  peImp (pe_bm PySem.F.plainAttrs_list PySem.F.slot_list_append PySem.F.type_list_append mt_append ho ha hbase hfew hline hst hplain) fun _ _ _ q => mtU_run mu_app q
end
end Mir
namespace Mir
open PySem PySem.Spec PyProof.Rows L2
section
variable {X : Cx} {J : Anc} {W : WX} {σ : L2.St} {A : Addr → Prop} {F H : Hp} {s : En} {tab : Str → Str → Bool} {i : Nat} {p : List Str}
theorem Own.lst_inv {K : PySem.W.Frag} {mg : Str → Option Value} {ds : List D} {v : V} {B : List Addr} (o : Own K mg F H (.lst ds) v B) : ∃ (a : Addr) (vs : List V), v = .ref a ∧ B = [a] ∧ H a = some (.lst vs) ∧ Reps K mg F ds vs := by
  cases o with
  | lst h r => exact ⟨_, _, rfl, rfl, h, r⟩
theorem Own.ins_inv {K : PySem.W.Frag} {mg : Str → Option Value} {c : Str} {ds : List (Str × D)} {v : V} {B : List Addr} (o : Own K mg F H (.ins c ds) v B) : ∃ (a C dx : Addr) (vs : List (Str × V)) (A : List Addr), v = .ref a ∧ B = a :: A ∧ H a = some (.ins C dx vs) ∧ mg c = some (.ref C) ∧ OwnF K mg F H ds vs A ∧ a ∉ A := by
  cases o with
  | ins h g r n => exact ⟨_, _, _, _, _, rfl, rfl, h, g, r, n⟩

/-! ### x.append(e), e of any sort -/
def mMtX (f : List D → List D → Option (D × List D)) (i : Nat) (m : MA) : ME := fun s => match s[i]? with
  | some (.b (.lst _)) => (m s).bind fun as s1 => match frzs as with
    | some ds => match s1[i]? with
      | some (.b (.lst cs)) => match f cs ds with
        | some (d, cs') => .ok d (s1.set i (.b (.lst cs')))
        | none => .bad
      | _ => .bad
    | none => .bad
  | _ => .bad
theorem mtX_run {Q : VK} {f : List D → List D → Option (D × List D)} {r : V → List V → Hp → VK → Prop} {m : MA} (hs : MtU X.K X.mg r f) : tE (km X) J W (mMtX f i m) σ H Q →
    tVar i σ H fun x H1 => tyV X.K "list" x H1 ∧ tAr (km X) J W m σ H1 fun xs H2 => r x xs H2 Q := fun ⟨F, A, s, R, q⟩ => by
  unfold mMtX at q
  split at q
  · rename_i cs0 hs0
    obtain ⟨fp, h1, h2, h3⟩ := R.lay
    obtain ⟨v, q1, q2⟩ := h1 i _ hs0
    refine ⟨v, q1, ?_⟩
    obtain ⟨a, xs, rfl, _, h, rr⟩ := q2.lst_inv
    · refine ⟨.inl ⟨rfl, xs, .of h⟩, ?_⟩
      refine bindG (P := AR (km X) σ) (P' := PRep (km X)) R q fun as s1 vs F1 H1 A1 S1 R1 p1 q1' => ?_
      cases e : frzs as with
      | none => rw [e] at q1'; exact q1'.elim
      | some ds =>
        rw [e] at q1'
        dsimp only at q1'
        split at q1'
        · rename_i cs hs1
          cases hf : f cs ds with
          | none => rw [hf] at q1'; exact q1'.elim
          | some rs =>
            obtain ⟨d, cs'⟩ := rs
            rw [hf] at q1'
            obtain ⟨v2, r2, ⟨B, ow2, _⟩, wr⟩ := R1.place (tab := fun _ _ => false) (p := []) hs1 rfl q1
            cases r2
            cases ow2 with
            | lst h' rr' =>
              refine hs F1 H1 a _ vs cs ds cs' d Q R1.sub h' rr' (frzs_rep p1 e) hf fun v xs' rv rx => ?_
              obtain ⟨R3, S3⟩ := wr a (.lst xs') (.lst cs') rfl fun B ow => by
                cases ow
                exact ⟨List.mem_singleton.mpr rfl, .lst L2.upd_same rx⟩
              exact q1' v F1 _ A1 S3 (by simpa [putD] using R3) rv
        · exact q1'.elim
  · exact q.elim
theorem ge_appX {x : Str} {e : Expr} {px apos cpos : Pos} {m : MA} (ho : PE X (.Name x px) (tVar i)) (ha : PA X [e] (tAr (km X) J W m))
    (hbase : attributeBase (.Name x px) "append" X.env (eval (.Name x px) X.env) = eval (.Name x px) X.env := by rfl)
    (hfew : ((backTo cpos (starEach [e] X.env)).all (fun x => !x.1) && (backToKw cpos (keywordEach [] X.env)).all (fun x => x.1.isSome)
      && decide ([e].length + ([] : List Keyword).length + (if ([] : List Keyword).isEmpty then 0 else 1) < 30)) = true := by rfl)
    (hline : (apos.endLine == cpos.line) = true := by rfl) (hst : starEach [e] X.env = (false, eval e X.env) :: starEach [] X.env := by rfl) (hplain : (backTo cpos (starEach [] X.env)).any (·.1) = false := by rfl) :
    PE X (.Call (.Attribute (.Name x px) "append" apos) [e] [] cpos) (tE (km X) J W (mMtX fApp i m)) :=
  peImp (pe_bm PySem.F.plainAttrs_list PySem.F.slot_list_append PySem.F.type_list_append mt_append ho ha hbase hfew hline hst hplain) fun _ _ _ q => mtX_run mu_app q

/-! ### x.f = e -/
def putFD (f : Str) (d : D) : List (Str × D) → List (Str × D)
  | [] => [(f, d)]
  | (g, x) :: r => if g = f then (g, d) :: r else (g, x) :: putFD f d r
theorem OwnF.length {K : PySem.W.Frag} {mg : Str → Option Value} : ∀ {fs : List (Str × D)} {vs : List (Str × V)} {B : List Addr}, OwnF K mg F H fs vs B → fs.length = vs.length
  | _, _, _, .nil => rfl
  | _, _, _, .frz _ r => congrArg Nat.succ r.length
  | _, _, _, .box _ r _ => congrArg Nat.succ r.length
theorem OwnF.putD {K : PySem.W.Frag} {mg : Str → Option Value} {f : Str} {d : D} {v : V} (h : Rep K mg F d v) : ∀ {fs : List (Str × D)} {vs : List (Str × V)} {B : List Addr}, OwnF K mg F H fs vs B → ∃ B', OwnF K mg F H (putFD f d fs) (putF f v vs) B' ∧ ∀ a ∈ B', a ∈ B
  | _, _, _, .nil => ⟨[], .frz h .nil, fun a ha => ha⟩
  | _, _, _, .frz (x := x) (B := B) h' r => by
    unfold putFD putF
    by_cases e : x = f
    · rw [if_pos e, if_pos e]; exact ⟨B, .frz h r, fun a ha => ha⟩
    · rw [if_neg e, if_neg e]
      obtain ⟨B', r', k⟩ := r.putD h
      exact ⟨B', .frz h' r', k⟩
  | _, _, _, .box (x := x) (A := A1) (B := B) h' r n => by
    unfold putFD putF
    by_cases e : x = f
    · rw [if_pos e, if_pos e]; exact ⟨B, .frz h r, fun a ha => List.mem_append_right _ ha⟩
    · rw [if_neg e, if_neg e]
      obtain ⟨B', r', k⟩ := r.putD h
      refine ⟨A1 ++ B', .box h' r' fun a ha z => n a ha (k a z), fun a ha => ?_⟩
      rcases List.mem_append.mp ha with ha | ha
      · exact List.mem_append_left _ ha
      · exact List.mem_append_right _ (k a ha)
theorem OwnF.putB {K : PySem.W.Frag} {mg : Str → Option Value} {f : Str} {d : D} {v : V} {Bx : List Addr} (h : Own K mg F H d v Bx) : ∀ {fs : List (Str × D)} {vs : List (Str × V)} {B : List Addr}, OwnF K mg F H fs vs B → Dis Bx B → ∃ B', OwnF K mg F H (putFD f (.box d) fs) (putF f v vs) B' ∧ ∀ a ∈ B', a ∈ B ∨ a ∈ Bx
  | _, _, _, .nil, _ => ⟨Bx ++ [], .box h .nil (fun a _ z => by cases z), fun a ha => .inr (by simpa using ha)⟩
  | _, _, _, .frz (x := x) (B := B) h' r, n => by
    unfold putFD putF
    by_cases e : x = f
    · rw [if_pos e, if_pos e]
      exact ⟨Bx ++ B, .box h r n, fun a ha => (List.mem_append.mp ha).symm⟩
    · rw [if_neg e, if_neg e]
      obtain ⟨B', r', k⟩ := r.putB h n
      exact ⟨B', .frz h' r', k⟩
  | _, _, _, .box (x := x) (A := A1) (B := B) h' r n, nn => by
    unfold putFD putF
    by_cases e : x = f
    · rw [if_pos e, if_pos e]
      refine ⟨Bx ++ B, .box h r (fun a ha z => nn a ha (List.mem_append_right _ z)), fun a ha => ?_⟩
      rcases List.mem_append.mp ha with ha | ha
      · exact .inr ha
      · exact .inl (List.mem_append_right _ ha)
    · rw [if_neg e, if_neg e]
      obtain ⟨B', r', k⟩ := r.putB h fun a ha z => nn a ha (List.mem_append_right _ z)
      refine ⟨A1 ++ B', .box h' r' fun a ha z => ?_, fun a ha => ?_⟩
      · rcases k a z with q | q
        · exact n a ha q
        · exact nn a q (List.mem_append_left _ ha)
      · rcases List.mem_append.mp ha with ha | ha
        · exact .inl (List.mem_append_left _ ha)
        · exact (k a ha).imp (List.mem_append_right _) id
/-- what becomes of the own data at a place's field -/
def stF (tab : Str → Str → Bool) (f : Str) (d : D) : D → Option D
  | .ins c fs => if tab c f = true ∧ fs.length < 1000 then some (.ins c (putFD f d fs)) else none
  | _ => none
def mSetF (tab : Str → Str → Bool) (i : Nat) (f : Str) (m : ME) : MS := fun s => (m s).out fun d s1 => match s1[i]? with
  | some (.b (.ins c fs)) => if tab c f = true ∧ fs.length < 1000 then .nx (s1.set i (.b (.ins c (putFD f d fs)))) else .bad
  | _ => .bad
def mSetFB (tab : Str → Str → Bool) (i : Nat) (f : Str) (m : ME) : MS := fun s => (m s).out fun d s1 => match s1[i]? with
  | some (.b (.ins c fs)) => if tab c f = true ∧ fs.length < 1000 then .nx (s1.set i (.b (.ins c (putFD f (.box d) fs)))) else .bad
  | _ => .bad
theorem gs_setF {x f : Str} {e : Expr} {px pt pos : Pos} {m : ME} (T : FldOk X.K X.mg tab) (ho : PE X (.Name x px) (tVar i)) (he : PE X e (tE (km X) J W m)) (hs : swapsWith e (some (.Attribute (.Name x px) f pt)) pos.line X.env = pure false := by rfl) :
    PS X (.Assign [.Attribute (.Name x px) f pt] e pos) (tS (km X) J W (mSetF tab i f m)) := psImp (ps_fld ho he hs) fun D σ H ⟨F, A, s, R, q⟩ =>
  bindS (P := PRep (km X)) R q fun d s1 v F1 H1 A1 S1 R1 p1 q1 => by
    split at q1
    · rename_i c fs hs1
      split at q1
      · rename_i ht
        obtain ⟨fp, h1, h2, h3⟩ := R1.lay
        obtain ⟨w, e1, e2⟩ := h1 i _ hs1
        refine ⟨w, e1, ?_⟩
        obtain ⟨a, C, dx, xs, _, rfl, _, ha, hm, r, n⟩ := e2.ins_inv
        · obtain ⟨c1, c2⟩ := T c f C ht.1 hm
          refine ⟨a, C, dx, xs, rfl, ha, c1, c2, by rw [← r.length]; exact ht.2, ?_⟩
          obtain ⟨R3, S3⟩ := R1.wr (p := a) (o' := .ins C dx (putF f v xs)) (d' := .ins c (putFD f d fs)) (Bx := []) hs1 e1 (fun B ow => by cases ow; exact List.mem_cons_self) (fun a ha => by cases ha) fun B ow k => by
            cases ow with
            | ins ha' hm' r' n' =>
              rw [ha] at ha'; cases ha'
              obtain ⟨B', r2, k2⟩ := r'.putD (f := f) p1
              refine ⟨a :: B', .ins L2.upd_same hm (r2.keep (Sub.refl _) fun b hb o ho => ?_) (fun z => n' (k2 a z)), List.mem_cons_self, fun b hb => ?_⟩
              · have : b ≠ a := fun z => n' (k2 a (z ▸ hb))
                rw [L2.upd_ne this]; exact ho
              · rcases List.mem_cons.mp hb with z | z
                · rw [z]; exact .inl List.mem_cons_self
                · exact .inl (List.mem_cons_of_mem _ (k2 b z))
          exact q1 σ F1 _ _ (S3 A1 F1 H1 Stp.refl fun a ha => by cases ha) R3
      · exact q1.elim
    · exact q1.elim
theorem gs_setFB {x f : Str} {e : Expr} {px pt pos : Pos} {m : ME} (T : FldOk X.K X.mg tab) (ho : PE X (.Name x px) (tVar i)) (he : PE X e (tF (km X) J W m)) (hs : swapsWith e (some (.Attribute (.Name x px) f pt)) pos.line X.env = pure false := by rfl) :
    PS X (.Assign [.Attribute (.Name x px) f pt] e pos) (tS (km X) J W (mSetFB tab i f m)) := psImp (ps_fld ho he hs) fun D σ H ⟨F, A, s, R, q⟩ =>
  ⟨F, A, s, R, bindFS R q fun d s1 v F1 H1 A1 B S1 R1 ow hb q1 => by
    split at q1
    · rename_i c fs hs1
      split at q1
      · rename_i ht
        obtain ⟨fp, h1, h2, h3⟩ := R1.lay
        obtain ⟨w, e1, e2⟩ := h1 i _ hs1
        refine ⟨w, e1, ?_⟩
        obtain ⟨a, C, dx, xs, _, rfl, _, ha, hm, r, n⟩ := e2.ins_inv
        · obtain ⟨c1, c2⟩ := T c f C ht.1 hm
          refine ⟨a, C, dx, xs, rfl, ha, c1, c2, by rw [← r.length]; exact ht.2, ?_⟩
          obtain ⟨R3, S3⟩ := R1.wr (p := a) (o' := .ins C dx (putF f v xs)) (d' := .ins c (putFD f (.box d) fs)) (Bx := B) hs1 e1 (fun B ow => by cases ow; exact List.mem_cons_self) (fun a ha => ⟨(hb a ha).1, (hb a ha).2.1, ow.mut a ha⟩) fun B0 ow0 k => by
            cases ow0 with
            | ins ha' hm' r' n' =>
              rw [ha] at ha'; cases ha'
              have dj : ∀ x, x ∈ B → x ∉ a :: _ := fun x hx z => (hb x hx).2.1 (k x z).2
              obtain ⟨B', r2, k2⟩ := r'.putB (f := f) ow fun x hx z => dj x hx (List.mem_cons_of_mem _ z)
              have na : a ∉ B' := fun z => by
                rcases k2 a z with y | y
                · exact n' y
                · exact dj a y List.mem_cons_self
              refine ⟨a :: B', .ins L2.upd_same hm (r2.keep (Sub.refl _) fun b hb o ho => ?_) na, List.mem_cons_self, fun b hb => ?_⟩
              · have : b ≠ a := fun z => na (z ▸ hb)
                rw [L2.upd_ne this]; exact ho
              · rcases List.mem_cons.mp hb with z | z
                · rw [z]; exact .inl List.mem_cons_self
                · exact (k2 b z).imp (List.mem_cons_of_mem _) id
          exact q1 σ F1 _ _ (S3 A F H S1 fun a ha => (hb a ha).2.2) R3
      · exact q1.elim
    · exact q1.elim⟩

/-! ### C(e, ..): a new object of an own class -/
def mMake (c : Str) (n : Nat) (f : List D → Out) (as : MA) : ME := fun s => (as s).bind fun as s1 => match frzs as with
  | some ds => if ds.length + 1 = n then match f (.ins c [] :: ds) with
    | .rt .non (.b d :: _) => .ok d s1
    | .ex c fs _ => .ex c fs s1
    | _ => .bad
    else .bad
  | none => .bad
theorem args_nilD (ds : List D) : ∀ (i : Nat), (args [] ds)[i]? = (ds[i]?).map Sl.d := by
  induction ds with
  | nil => intro i; simp [args]
  | cons d ds ih =>
    intro i
    cases i with
    | zero => simp [args]
    | succ i => simpa [args] using ih i
theorem make_run {Q : VK} {c : Str} {C : Addr} {n : Nat} {f : List D → Out} {as : MA} (hm : X.mg c = some (.ref C)) : tF (km X) J W (mMake c n f as) σ H Q → tMakeM C (spM X.K X.mg n [true] f) (WE W) (tAr (km X) J W as) σ H Q := fun ⟨F, A, s, R, q⟩ =>
  bindF (P := AR (km X) σ) R q fun as s1 vs F1 H1 A1 S R1 p q1 => by
    cases e : frzs as with
    | none => rw [e] at q1; exact q1.elim
    | some ds =>
      rw [e] at q1
      dsimp only at q1
      by_cases hn : ds.length + 1 = n
      · rw [if_pos hn] at q1
        have r := frzs_rep p e
        intro x dx hx hdx hne
        let H2 : Hp := L2.upd (L2.upd H1 dx (.own x)) x (.ins C dx [])
        have sH : Sub H1 H2 := fun a o h => by
          show L2.upd (L2.upd H1 dx (.own x)) x _ a = some o
          rw [L2.upd_ne (ne_of_none h hx), L2.upd_ne (ne_of_none h hdx)]; exact h
        have sF : Sub F1 H2 := R1.sub.trans sH
        have h2x : H2 x = some (.ins C dx []) := L2.upd_same
        have back : ∀ a, H2 a = none → H1 a = none := fun a h => by
          cases e : H1 a with
          | none => rfl
          | some o => rw [sH a o e] at h; cases h
        have fx : F1 x = none := by
          cases e : F1 x with
          | none => rfl
          | some o => rw [R1.sub x o e] at hx; cases hx
        refine ⟨by rw [List.length_cons, ← r.length]; exact hn, F1, (fun a => a = x), .ins c [] :: ds, by rw [List.length_cons, List.length_cons, r.length], ⟨sF, fun i d hi => ?_, ⟨fun i => if i = 0 then [x] else [], fun i d hi => ?_, fun i j a hi hj => ?_, fun i a hi => ?_⟩, fun a ha => ha ▸ fx, fun a ha => ?_⟩, ?_⟩
        · cases i with
          | zero => simp [args] at hi
          | succ i =>
            have hi' : (ds[i]?).map Sl.d = some (.d d) := by rw [← args_nilD]; simpa [args] using hi
            cases ed : ds[i]? with
            | none => rw [ed] at hi'; cases hi'
            | some y =>
              rw [ed] at hi'; cases hi'
              obtain ⟨v, v1, v2⟩ := r.get ed
              exact ⟨v, by simpa using v1, v2⟩
        · cases i with
          | zero =>
            simp [args] at hi
            subst hi
            exact ⟨.ref x, rfl, .ins h2x hm .nil (by simp)⟩
          | succ i =>
            have hi' : (ds[i]?).map Sl.d = some (.b d) := by rw [← args_nilD]; simpa [args] using hi
            cases ed : ds[i]? with
            | none => rw [ed] at hi'; cases hi'
            | some y => rw [ed] at hi'; cases hi'
        · dsimp only at hi hj
          by_cases i0 : i = 0
          · by_cases j0 : j = 0
            · rw [i0, j0]
            · rw [if_neg j0] at hj; cases hj
          · rw [if_neg i0] at hi; cases hi
        · dsimp only at hi
          by_cases i0 : i = 0
          · rw [if_pos i0] at hi; exact List.mem_singleton.mp hi
          · rw [if_neg i0] at hi; cases hi
        · show Mut (H2 a)
          rw [show a = x from ha, h2x]; trivial
        · have stp : ∀ (F3 H3 : Hp) (A3 : Addr → Prop), Stp (fun a => a = x) F1 H2 A3 F3 H3 → Stp A1 F1 H1 A1 F3 H3 ∧ (∀ a, A1 a → ¬ A3 a) := fun F3 H3 A3 S3 => by
            refine ⟨⟨fun a o h _ => S3.keep a o (sH a o h) fun z => ?_, S3.mono, fun a o h n => .inl ?_, fun a h => .inl h⟩, fun a h z => ?_⟩
            · rw [z] at h; rw [hx] at h; cases h
            · rcases S3.new a o h n with q | q
              · exact back a q
              · rw [q]; exact hx
            · obtain ⟨o, ho⟩ := R1.ex a h
              rcases S3.own a z with q | q
              · rw [q] at ho; rw [hx] at ho; cases ho
              · rw [back a q] at ho; cases ho
          have rel : ∀ (F3 H3 : Hp) (A3 : Addr → Prop) (r : En), Stp (fun a => a = x) F1 H2 A3 F3 H3 → RelA X.K X.mg F3 H3 r (((V.ref x :: vs)).map some) A3 → Rel (km X) J F3 H3 s1 σ A1 := fun F3 H3 A3 r S3 RA => by
            obtain ⟨S4, nA⟩ := stp F3 H3 A3 S3
            have keep : ∀ a o, H1 a = some o → H3 a = some o := fun a o h => S3.keep a o (sH a o h) fun z => by rw [z, hx] at h; cases h
            refine ⟨RA.sub, fun i d e => (R1.frz i d e).imp fun v q => ⟨q.1, q.2.mono S3.mono⟩, ?_, fun a ha => ?_, fun a ha => ?_, fun i c fs h => ?_, R1.anch, R1.len⟩
            · obtain ⟨fp, g1, g2, g3⟩ := R1.lay
              refine ⟨fp, fun i d e => ?_, g2, g3⟩
              obtain ⟨v, u1, u2⟩ := g1 i d e
              exact ⟨v, u1, u2.keep S3.mono fun a _ o h => keep a o h⟩
            · cases ef : F3 a with
              | none => rfl
              | some o =>
                obtain ⟨u, hu⟩ := R1.ex a ha
                rcases S3.new a o ef (R1.free a ha) with q | q
                · rw [back a q] at hu; cases hu
                · rw [q, hx] at hu; cases hu
            · obtain ⟨u, hu⟩ := R1.ex a ha
              have m := R1.there a ha
              rw [hu] at m; rw [keep a u hu]; exact m
            · obtain ⟨a, oe, C', y1, y2, y3, y4, y5⟩ := R1.exn i c fs h
              refine ⟨a, oe, C', y1, y2, y3, y4, y5.imp id ?_⟩
              rintro ⟨f, d, dx, v, e1, e2, e3, e4, e5⟩
              exact ⟨f, d, dx, v, e1, e2, keep _ _ e3, e4, e5.mono S3.mono⟩
          cases ef : f (.ins c [] :: ds) with
          | rt dr rr =>
            rw [ef] at q1
            cases dr with
            | non =>
              cases rr with
              | nil => exact q1.elim
              | cons y rr =>
                cases y with
                | b d =>
                  intro v F3 H3 A3 S3 RA rv
                  cases rv
                  obtain ⟨fp, g1, g2, g3⟩ := RA.lay
                  obtain ⟨v0, u1, u2⟩ := g1 0 d rfl
                  cases u1
                  obtain ⟨S4, nA⟩ := stp F3 H3 A3 S3
                  refine ⟨rfl, q1 (.ref x) F3 H3 A1 (fp 0) S4 (rel F3 H3 A3 _ S3 RA) u2 fun a ha => ⟨RA.free a (g3 0 a ha), fun z => nA a z (g3 0 a ha), ?_⟩⟩
                  rcases S3.own a (g3 0 a ha) with q | q
                  · rw [q]; exact .inr hx
                  · exact .inr (back a q)
                | _ => exact q1.elim
            | _ => exact q1.elim
          | ex ce fs rr =>
            rw [ef] at q1
            intro cls dx' F3 H3 A3 S3 RA xx
            obtain ⟨S4, nA⟩ := stp F3 H3 A3 S3
            refine q1 cls dx' F3 H3 A1 S4 (rel F3 H3 A3 _ S3 RA) ?_
            obtain ⟨C', x1, x2, x3⟩ := xx
            refine ⟨C', x1, x2, x3.imp id ?_⟩
            rintro ⟨fl, d, a, v, e1, e2, e3, e4, e5⟩
            refine ⟨fl, d, a, v, e1, e2, e3, fun z => ?_, e5⟩
            have m := (rel F3 H3 A3 _ S3 RA).there a z
            rw [e3] at m; exact m
          | nx _ => rw [ef] at q1; exact q1.elim
          | bk _ => rw [ef] at q1; exact q1.elim
          | ct _ => rw [ef] at q1; exact q1.elim
          | ro _ _ => rw [ef] at q1; exact q1.elim
          | bad => rw [ef] at q1; exact q1.elim
      · rw [if_neg hn] at q1; exact q1.elim
theorem gf_make {x : Str} {p pos : Pos} {e : Expr} {es : List Expr} {as : MA} {n : Nat} {f : List D → Out} {k : Nat} {C fa : Addr} {fd : FuncData} {ps : List Str} (tk : Takes X W) (M : Mk X.K C fa) (G : FnOk X.prog X.w X.K X.mg X.base (L2.CX X.prog X.w) k fa fd ps (spM X.K X.mg n [true] f)) (hr : Room (k + 1) X.A) (hg : Gl X x) (hm : X.mg x = some (.ref C)) (hb : Binds X.K fd ps [])
    (ha : PA X (e :: es) (tAr (km X) J W as)) (hdb : (x == ("__debug__" : Str)) = false := by decide) (he : starEach (e :: es) X.env = (false, eval e X.env) :: starEach es X.env := by rfl) (hpl : (backTo pos (starEach es X.env)).any (·.1) = false := by rfl) :
    PE X (.Call (.Name x p) (e :: es) [] pos) (tF (km X) J W (mMake x n f as)) := peImp (pe_makeM M G hr hg hm hb (fun σ => passAt tk σ) ha hdb he hpl) fun _ _ _ q => make_run hm q
end
end Mir
namespace L2
open PySem PySem.Spec PyProof.Rows
section
variable {X : Cx} {pos : Pos}
/-- X(), X an own exception class without own __init__ -/
theorem pmk_ownZ {C : Addr} {bmB : List Value} {B newId initId : String} {x : Str} {p : Pos} (F : ExcBaseFacts B newId initId bmB) (q : PySem.W.excIn X.K C bmB newId = true) (gC : X.mg x = some (.ref C))
    (kC : PySem.W.keepIn X.K (.ref C) = true) (r : Raises X (.ref C)) (hg : Gl X x) (hdb : (x == ("__debug__" : Str)) = false := by decide) :
    PMk X (.Call (.Name x p) [] [] pos) (fun σ H Q => Q (.ref C) none H) := by
  intro pins s σ H Q I h
  refine wpAny_Call_Name_kw (ld_glob I hg gC ?_ hdb)
  refine PySem.W.callWith_K0 I.kIn kC ?_
  obtain ⟨bm, N, nm, qn, bs, hdct, sn, sub, ab, col, dd, k0, k1, k2, k3, k5, mN, hC, hN, hni, T⟩ := exc_obj I.kIn q
  refine wpAny_call_exc_subT F T hC hN hni (fun h' e hm => ?_) (by rw [sizeLine_eq]; decide)
  exact mk_of I hm r h (I.hok.gone hm.new)
end
/-- __init__ of an own exception class: self.f = the one argument -/
def spXI (C : Addr) (f : Str) : Sp := fun vs H Q E => ∃ (a : Addr) (v : V), vs = [.ref a, v] ∧ H a = some (exo a C none) ∧ ∀ dx, H dx = none → dx ≠ a → Q .non (upd (upd H dx (exd dx [(f, v)])) a (exo a C (some dx)))
section
variable {P : Program} {w : World} {K : PySem.W.Frag} {mg : Str → Option Value} {base : Heap}
theorem ok_xinit {qual g : Str} {st : Stmt} {f C : Addr} {fd : FuncData} {p1 p2 p3 p4 : Pos} (F : Fun K "__init__" qual st f fd) (S : FnScope ["self", g] ["self", g] (defScope st)) (hb : defBody st = [.Assign [.Attribute (.Name "self" p1) g p2] (.Name g p3) p4])
    (T : OexC K C) (hno : PySem.W.findIn K (.ref C) g = some none) (l1 : (defScope st).names.lookup ("self" : Str) = some NameKind.local) (l2 : (defScope st).names.lookup g = some NameKind.local) (hd1 : (g == ("__debug__" : Str)) = false := by decide) (hd2 : (g == ("__classdict__" : Str)) = false := by decide) : FnOk P w K mg base (L2.CX P w) 1 f fd ["self", g] (spXI C g) := by
  refine F.okX S (fun vs H Q E h => by obtain ⟨a, v, rfl, _⟩ := h; rfl) fun cdv A outer s H vs Q E hr h => ?_
  obtain ⟨a, v, rfl, ha, k⟩ := h
  rw [hb]
  refine ⟨_, pss_one (ps_ost (pe_var (i := 0) rfl (Or.inl l1)) (pe_var (i := 1) rfl (Or.inl l2) hd1 hd2) (by rfl)), ?_⟩
  exact ⟨v, rfl, .ref a, rfl, a, C, rfl, T, hno, .inl ⟨ha, fun dx h1 h2 => k dx h1 h2⟩⟩
end
end L2
namespace Mir
open PySem PySem.Spec PyProof.Rows L2
section
variable {X : Cx} {J : Anc} {W : WX} {σ : L2.St} {A : Addr → Prop} {F H : Hp} {s : En}

/-! ### raise -/
def mRaise0 (c : Str) : MS := fun s => .ex c [] s
def mRaise1 (c f : Str) (m : ME) : MS := fun s => (m s).out fun d s1 => .ex c [(f, d)] s1
theorem gs_raise0 {bmB : List Value} {B newId initId : String} {C : Addr} {c : Str} {p pos pos' : Pos} (hc : X.calm = true) (tk : Takes X W) (B0 : ExcBaseFacts B newId initId bmB) (q : PySem.W.excIn X.K C bmB newId = true) (gC : X.mg c = some (.ref C))
    (kC : PySem.W.keepIn X.K (.ref C) = true) (r : Raises X (.ref C)) (hg : Gl X c) (hdb : (c == ("__debug__" : Str)) = false := by decide) : PS X (.Raise (some (.Call (.Name c p) [] [] pos)) none pos') (tS (km X) J W (mRaise0 c)) :=
  psImp (ps_raise hc tk (pmk_ownZ B0 q gC kC r hg hdb)) fun D σ H ⟨F, A, s, R, h⟩ => h _ none σ F H A Stp.refl R ⟨C, gC, rfl, .inl ⟨rfl, rfl⟩⟩
theorem raise1_run {D : Ends} {c f : Str} {C : Addr} {m : ME} (gC : X.mg c = some (.ref C)) : tS (km X) J W (mRaise1 c f m) D σ H → tMkO C (spXI C f) [] (tCons (tE (km X) J W m) tNil) σ H fun cls d H' => W cls d σ H' := fun ⟨F, A, s, R, q⟩ =>
  bindS (P := PRep (km X)) R q fun d s1 v F1 H1 A1 S1 R1 p1 q1 => by
    refine ⟨by simp, fun a ha => ⟨a, v, rfl, L2.upd_same, fun dx hdx hne => ?_⟩⟩
    have h1dx : H1 dx = none := by rw [L2.upd_ne hne] at hdx; exact hdx
    have e0 : L2.upd (L2.upd (L2.upd H1 a (exo a C none)) dx (exd dx [(f, v)])) a (exo a C (some dx)) dx = some (exd dx [(f, v)]) := by rw [L2.upd_ne hne, L2.upd_same]
    refine ⟨rfl, dx, [(f, v)], L2.upd_same, e0, h1dx, ?_⟩
    have eH : L2.upd (del (L2.upd (L2.upd (L2.upd H1 a (exo a C none)) dx (exd dx [(f, v)])) a (exo a C (some dx))) a) dx (.xd [(f, v)]) = L2.upd H1 dx (.xd [(f, v)]) := by
      funext b
      by_cases hb : b = dx
      · rw [hb, L2.upd_same, L2.upd_same]
      · rw [L2.upd_ne hb, L2.upd_ne hb]
        by_cases hba : b = a
        · rw [hba, del_same, ha]
        · rw [del_ne hba, L2.upd_ne hba, L2.upd_ne hb, L2.upd_ne hba]
    rw [eH]
    obtain ⟨R2, S2⟩ := R1.addH (o := .xd [(f, v)]) h1dx
    refine q1 _ (some dx) σ F1 _ A1 S2 R2 ⟨C, gC, rfl, .inr ⟨f, d, dx, v, rfl, rfl, L2.upd_same, fun z => ?_, p1⟩⟩
    obtain ⟨u, hu⟩ := R1.ex dx z
    rw [h1dx] at hu; cases hu
theorem gs_raise1 {c f : Str} {C fI : Addr} {k : Nat} {fd : FuncData} {e : Expr} {m : ME} {p pos pos' : Pos} (hc : X.calm = true) (tk : Takes X W) (T : OexC X.K C) (iC : PySem.W.findIn X.K (.ref C) "__init__" = some (some (.ref fI))) (tI : PySem.W.typeIn X.K (.ref fI) = some (.type "function"))
    (G : FnOk X.prog X.w X.K X.mg X.base (L2.CX X.prog X.w) k fI fd ["self", f] (spXI C f)) (hr : Room (k + 1) X.A) (hb : Binds X.K fd ["self", f] []) (hx : Passes (L2.CX X.prog X.w) X (fun _ _ _ => False)) (hg : Gl X c) (hm : X.mg c = some (.ref C)) (he : PE X e (tE (km X) J W m))
    (hdb : (c == ("__debug__" : Str)) = false := by decide) (hst : starEach [e] X.env = (false, eval e X.env) :: starEach [] X.env := by rfl) (hpl : (backTo pos (starEach [] X.env)).any (·.1) = false := by rfl) :
    PS X (.Raise (some (.Call (.Name c p) [e] [] pos)) none pos') (tS (km X) J W (mRaise1 c f m)) :=
  psImp (ps_raise hc tk (pmk_oex T iC tI G hr hb .nil hx hg hm (pa_cons he pa_nil hst) hdb hst hpl)) fun D σ H h => raise1_run hm h

/-! ### try -/
def noX : Out → Out
  | .ex _ _ _ => .bad
  | o => o
def nox : WX := fun _ _ _ _ => False
structure Hd where
  m : Str → Option Bool
  b : MS
def mCatch : List Hd → Str → List (Str × D) → En → Out
  | [], c, fs, s => .ex c fs s
  | h :: r, c, fs, s => match h.m c with
    | some true => noX (h.b s)
    | some false => mCatch r c fs s
    | none => .bad
def mTry (b : MS) (hs : List Hd) : MS := fun s => match b s with
  | .ex c fs s1 => mCatch hs c fs s1
  | o => o
/-- the clauses' table tells what catches what -/
def CatchOk (K : PySem.W.Frag) (mg : Str → Option Value) (m : Str → Option Bool) (hv : Value) : Prop := ∀ (c : Str) (C : Addr) (b : Bool), m c = some b → mg c = some (.ref C) → PySem.W.exmOne K (.ref C) hv = some b
inductive HdsM (X : Cx) (J : Anc) : List ExceptHandler → List Hd → Prop
  | nil : HdsM X J [] []
  | cons {x : Str} {hv : Value} {m : Str → Option Bool} {b : MS} {b₀ : Stmt} {suite : List Stmt} {np pos' : Pos} {hds : List ExceptHandler} {l : List Hd} (hc : Names X x hv) (cm : CatchOk X.K X.mg m hv)
      (hsu : ∀ (a : Addr) (oe : Obj) (pn : List (Addr × Obj)), PSs (X.suite a ((a, oe) :: pn)) (b₀ :: suite) (tS (km X) J nox b)) (r : HdsM X J hds l) : HdsM X J (.ExceptHandler (some (.Name x np)) none (b₀ :: suite) pos' :: hds) (⟨m, b⟩ :: l)
theorem SOk.noX {N : Ends} {A0 : Addr → Prop} {F0 H0 : Hp} {W W' : WX} {o : Out} (h : SOk (km X) J W N A0 F0 H0 (Mir.noX o)) : SOk (km X) J W' N A0 F0 H0 o := by
  cases o with
  | ex c fs s => exact h.elim
  | nx s => exact h
  | bk s => exact h
  | ct s => exact h
  | rt d s => exact h
  | ro d s => exact h
  | bad => exact h.elim
theorem catch_run {N : Ends} {hds : List ExceptHandler} {l : List Hd} (hh : HdsM X J hds l) : ∃ lt, HdsOk X hds lt ∧ ∀ (σ : L2.St) (F H : Hp) (A : Addr → Prop) (s : En) (c : Str) (fs : List (Str × D)) (cls : Value) (dx : Option Addr), Rel (km X) J F H s σ A → Exc (km X) A F H c fs cls dx →
    SOk (km X) J W N A F H (mCatch l c fs s) → wMany X.K W N lt cls dx σ H := by
  induction hh with
  | nil => exact ⟨[], .nil, fun σ F H A s c fs cls dx R x q => q cls dx σ F H A Stp.refl R x⟩
  | @cons x hv m b b₀ suite np pos' hds l hc cm hsu r ih =>
    obtain ⟨lt, h1, h2⟩ := ih
    refine ⟨(hv, fun _ _ _ => tS (km X) J nox b) :: lt, .cons hc (fun a oe cls d pn _ _ => hsu a oe pn) h1, fun σ F H A s c fs cls dx R x q => ?_⟩
    obtain ⟨C, x1, x2, x3⟩ := id x
    unfold mCatch at q
    cases e : m c with
    | none => simp only [e] at q; exact q.elim
    | some v =>
      have ex := cm c C v e x1
      rw [← x2] at ex
      cases v with
      | true =>
        simp only [e] at q
        exact ⟨true, ex, fun _ a ha => ⟨F, A, s, R, SOk.noX q⟩, fun z => by cases z⟩
      | false =>
        simp only [e] at q
        exact ⟨false, ex, (fun z => by cases z), fun _ => h2 σ F H A s c fs cls dx R x q⟩
theorem gs_try {body : List Stmt} {h₀ : ExceptHandler} {hds : List ExceptHandler} {l : List Hd} {b : MS} {pos : Pos} (hs : X.stack = X.env :: X.outer) (hf : X.env.frame = some X.env.locals) (tk : Takes X W)
    (hb : ∀ (W : WX) (pn : List (Addr × Obj)) (xe : Value → Shared → Prop), Takes (X.tr pn xe) W → PassesOwn (model X.prog X.w) X.A X.env xe → PSs (X.tr pn xe) body (tS (km X) J W b)) (hh : HdsM X J (h₀ :: hds) l) :
    PS X (.Try body (h₀ :: hds) [] [] pos) (tS (km X) J W (mTry b l)) := by
  refine ⟨fun pins s σ H N I h => ?_⟩
  obtain ⟨lt, h1, h2⟩ := catch_run (W := W) (N := N) hh
  refine (ps_try_many (tb := fun W => tS (km X) J W b) hs hf tk hb h1).run pins s σ H N I ?_
  obtain ⟨F, A, s, R, q⟩ := h
  refine ⟨F, A, s, R, ?_⟩
  unfold mTry at q
  cases e : b s with
  | ex c fs s1 => rw [e] at q; exact fun cls dx σ1 F1 H1 A1 S1 R1 x => h2 σ1 F1 H1 A1 s1 c fs cls dx R1 x (SOk.shift S1 q)
  | nx s => rw [e] at q; exact q
  | bk s => rw [e] at q; exact q
  | ct s => rw [e] at q; exact q
  | rt d s => rw [e] at q; exact q
  | ro d s => rw [e] at q; exact q
  | bad => rw [e] at q; exact q
/-- except x as n -/
def noE : En → En := fun s => s.map fun x => match x with
  | .e _ _ => .no
  | x => x
def wipeE (i : Nat) : Out → Out
  | .nx s => .nx ((noE s).set i .no)
  | .bk s => .bk ((noE s).set i .no)
  | .ct s => .ct ((noE s).set i .no)
  | .rt d s => .rt d ((noE s).set i .no)
  | _ => .bad
def mTryAs (b : MS) (m : Str → Option Bool) (i : Nat) (h : MS) : MS := fun s => match b s with
  | .ex c fs s1 => match m c with
    | some true => wipeE i (h (s1.set i (.e c fs)))
    | some false => .ex c fs s1
    | none => .bad
  | o => o
/-- the suite's own pin -/
abbrev Anc.pin (J : Anc) (a : Addr) (oe : Obj) : Anc := ⟨J.j, (a, oe) :: J.pn⟩
theorem noE_get {s : En} {j : Nat} {x : Sl} (h : (noE s)[j]? = some x) (n : x ≠ .no) : s[j]? = some x ∧ ∀ c fs, x ≠ .e c fs := by
  unfold noE at h
  rw [List.getElem?_map] at h
  cases e : s[j]? with
  | none => rw [e] at h; cases h
  | some y =>
    rw [e] at h
    cases y with
    | e c fs => cases h; exact absurd rfl n
    | no => cases h; exact absurd rfl n
    | d x => cases h; exact ⟨rfl, fun _ _ z => by cases z⟩
    | b x => cases h; exact ⟨rfl, fun _ _ z => by cases z⟩
theorem Rel.unpin {i : Nat} {a : Addr} {oe : Obj} {o : Option V} (R : Rel (km X) (J.pin a oe) F H s σ A) (off : Off J i) : Rel (km X) J F H ((noE s).set i .no) (σ.set i o) A := by
  have get : ∀ (j : Nat) (x : Sl), ((noE s).set i .no)[j]? = some x → x ≠ .no → j ≠ i ∧ s[j]? = some x ∧ ∀ c fs, x ≠ .e c fs := fun j x h n => by
    rcases getD_set h with ⟨rfl, hl, q⟩ | ⟨ne, q⟩
    · exact absurd q n
    · exact ⟨ne, noE_get q n⟩
  obtain ⟨fp, h1, h2, h3⟩ := R.lay
  refine ⟨R.sub, fun j e q => ?_, ⟨fp, fun j e q => ?_, h2, h3⟩, R.free, R.there, fun j c fs q => ?_, fun p hp => set_get_ne (off p hp) (R.anch p hp), ?_⟩
  · obtain ⟨ne, q, _⟩ := get j _ q (by intro z; cases z)
    obtain ⟨v, q1, q2⟩ := R.frz j e q
    exact ⟨v, set_get_ne ne q1, q2⟩
  · obtain ⟨ne, q, _⟩ := get j _ q (by intro z; cases z)
    obtain ⟨v, q1, q2⟩ := h1 j e q
    exact ⟨v, set_get_ne ne q1, q2⟩
  · obtain ⟨ne, q, n⟩ := get j _ q (by intro z; cases z)
    exact absurd rfl (n c fs)
  · rw [List.length_set, List.length_set]; unfold noE; rw [List.length_map]; exact R.len
theorem Rel.keepE {i : Nat} {a : Addr} {oe : Obj} (R : Rel (km X) (J.pin a oe) F H s σ A) : Rel (km X) J F H ((noE s).set i .no) σ A := by
  have get : ∀ (j : Nat) (x : Sl), ((noE s).set i .no)[j]? = some x → x ≠ .no → s[j]? = some x ∧ ∀ c fs, x ≠ .e c fs := fun j x h n => by
    rcases getD_set h with ⟨rfl, hl, q⟩ | ⟨ne, q⟩
    · exact absurd q n
    · exact noE_get q n
  obtain ⟨fp, h1, h2, h3⟩ := R.lay
  refine ⟨R.sub, fun j e q => ?_, ⟨fp, fun j e q => ?_, h2, h3⟩, R.free, R.there, fun j c fs q => ?_, R.anch, ?_⟩
  · obtain ⟨q, _⟩ := get j _ q (by intro z; cases z)
    exact R.frz j e q
  · obtain ⟨q, _⟩ := get j _ q (by intro z; cases z)
    exact h1 j e q
  · obtain ⟨q, n⟩ := get j _ q (by intro z; cases z)
    exact absurd rfl (n c fs)
  · rw [List.length_set]; unfold noE; rw [List.length_map]; exact R.len
theorem Rel.caught {i : Nat} {a C : Addr} {oe : Obj} {c : Str} {fs : List (Str × D)} {dx : Option Addr} (R : Rel (km X) J F H s σ A) (off : Off J i) (x1 : X.mg c = some (.ref C)) (z1 : oe.cls = Value.ref C) (z2 : oe.dict = dx)
    (x3 : (fs = [] ∧ dx = none) ∨ ∃ (f : Str) (d : D) (b : Addr) (v : V), fs = [(f, d)] ∧ dx = some b ∧ H b = some (.xd [(f, v)]) ∧ ¬ A b ∧ Rep X.K X.mg F d v) : Rel (km X) (J.pin a oe) F H (s.set i (.e c fs)) (σ.set i (some (.ref a))) A := by
  obtain ⟨fp, h1, h2, h3⟩ := R.lay
  refine ⟨R.sub, fun j e q => ?_, ⟨fp, fun j e q => ?_, h2, h3⟩, R.free, R.there, fun j c' fs' q => ?_, fun p hp => set_get_ne (off p hp) (R.anch p hp), by rw [List.length_set, List.length_set]; exact R.len⟩
  · rcases getD_set q with ⟨rfl, hl, q⟩ | ⟨ne, q⟩
    · cases q
    · obtain ⟨v, q1, q2⟩ := R.frz j e q
      exact ⟨v, set_get_ne ne q1, q2⟩
  · rcases getD_set q with ⟨rfl, hl, q⟩ | ⟨ne, q⟩
    · cases q
    · obtain ⟨v, q1, q2⟩ := h1 j e q
      exact ⟨v, set_get_ne ne q1, q2⟩
  · rcases getD_set q with ⟨rfl, hl, q⟩ | ⟨ne, q⟩
    · cases q
      refine ⟨a, oe, C, List.getElem?_set_self (Nat.lt_of_lt_of_le hl R.len), List.mem_cons_self, z1, x1, ?_⟩
      rw [z2]
      rcases x3 with ⟨e1, e2⟩ | ⟨f, d, b, v, e1, e2, e3, e4, e5⟩
      · exact .inl ⟨e1, e2⟩
      · exact .inr ⟨f, d, b, v, e1, e2, e3, e4, e5⟩
    · obtain ⟨a', oe', C', q1, q2, q3⟩ := R.exn j c' fs' q
      exact ⟨a', oe', C', set_get_ne ne q1, List.mem_cons_of_mem _ q2, q3⟩
theorem gs_tryAs {body suite : List Stmt} {b₀ : Stmt} {x n : Str} {hv : Value} {m : Str → Option Bool} {i : Nat} {b h : MS} {np pos pos' : Pos} (off : Off J i) (hs : X.stack = X.env :: X.outer) (hf : X.env.frame = some X.env.locals) (hN : X.N.Nodup) (hi : X.N[i]? = some n) (hln : X.env.kindOf n = some .local) (hc : Names X x hv) (cm : CatchOk X.K X.mg m hv) (tk : Takes X W)
    (hb : ∀ (W : WX) (pn : List (Addr × Obj)) (xe : Value → Shared → Prop), Takes (X.tr pn xe) W → PassesOwn (model X.prog X.w) X.A X.env xe → PSs (X.tr pn xe) body (tS (km X) J W b))
    (hsu : ∀ (a : Addr) (oe : Obj) (pn : List (Addr × Obj)), (∃ vs, oe.data = .fields vs) → PSs (X.suite a ((a, oe) :: pn)) (b₀ :: suite) (tS (km X) (J.pin a oe) nox h)) :
    PS X (.Try body [.ExceptHandler (some (.Name x np)) (some n) (b₀ :: suite) pos'] [] [] pos) (tS (km X) J W (mTryAs b m i h)) := by
  refine ⟨fun pins s σ H N I hh => ?_⟩
  refine (ps_try_as (tb := fun W => tS (km X) J W b) (ts := fun a cls d => fun N σ H => ∀ oe : Obj, Zc cls d oe → tS (km X) (J.pin a oe) nox h N σ H) hs hf hN hi hln hc tk hb (fun a oe cls d pn hz hv => pssImp (hsu a oe pn hv) fun N σ H q => q oe hz)).run pins s σ H N I ?_
  obtain ⟨F, A, s, R, q⟩ := hh
  refine ⟨F, A, s, R, ?_⟩
  unfold mTryAs at q
  cases e : b s with
  | ex c fs s1 =>
    rw [e] at q
    dsimp only at q
    intro cls dx σ1 F1 H1 A1 S1 R1 x
    obtain ⟨C, x1, x2, x3⟩ := id x
    cases em : m c with
    | none => rw [em] at q; exact q.elim
    | some v =>
      have ex := cm c C v em x1
      rw [← x2] at ex
      rw [em] at q
      cases v with
      | true =>
        refine ⟨true, ex, fun _ a ha oe hz => ?_, (fun z => by cases z)⟩
        have R2 := R1.caught (a := a) (oe := oe) off x1 (hz.1.trans x2) hz.2 x3
        refine ⟨F1, A1, _, R2, ?_⟩
        have q2 := SOk.shift S1 q
        cases eh : h (s1.set i (.e c fs)) with
        | nx s => rw [eh] at q2; exact fun σ F H A S R => q2 (σ.set i none) F H A S (R.unpin off)
        | bk s => rw [eh] at q2; exact fun σ F H A S R => q2 (σ.set i none) F H A S (R.unpin off)
        | ct s => rw [eh] at q2; exact fun σ F H A S R => q2 (σ.set i none) F H A S (R.unpin off)
        | rt d s => rw [eh] at q2; exact fun v σ F H A S R r => q2 v σ F H A S R.keepE r
        | ro d s => rw [eh] at q2; exact q2.elim
        | ex c fs s => rw [eh] at q2; exact q2.elim
        | bad => rw [eh] at q2; exact q2.elim
      | false => exact ⟨false, ex, (fun z => by cases z), fun _ => q cls dx σ1 F1 H1 A1 S1 R1 x⟩
  | nx s => rw [e] at q; exact q
  | bk s => rw [e] at q; exact q
  | ct s => rw [e] at q; exact q
  | rt d s => rw [e] at q; exact q
  | ro d s => rw [e] at q; exact q
  | bad => rw [e] at q; exact q
/-- n.f, n the caught error -/
def pErr (tab : Str → Str → Bool) (i : Nat) (f : Str) : MP := fun s => match s[i]? with
  | some (.e c [(g, d)]) => if tab c f = true ∧ g = f then .ok d else .bad
  | _ => .bad
/-- what the text says of its errors -/
structure ErrFld (K : PySem.W.Frag) (C : Addr) (f : Str) : Prop where
  ga : PySem.W.findIn K (.ref C) "__getattribute__" = some (some (.builtin "BaseException.__getattribute__"))
  gg : PySem.W.findIn K (.ref C) "__getattr__" = some none
  exC : PySem.W.subIn K (.ref C) (.type "BaseException") = some true
  hdC : PySem.W.hasDictIn K C = true
  no : PySem.W.findIn K (.ref C) f = some none
def ErrOk (K : PySem.W.Frag) (mg : Str → Option Value) (tab : Str → Str → Bool) : Prop := ∀ (c f : Str) (C : Addr), tab c f = true → mg c = some (.ref C) → ErrFld K C f
theorem gu_err {tab : Str → Str → Bool} {i : Nat} {x f : Str} {a : Addr} {oe : Obj} {pn : List (Addr × Obj)} {px pos : Pos} (T : ErrOk X.K X.mg tab) (hJ : J.pn = []) (hv : ∃ vs, oe.data = .fields vs) (he : PE (X.suite a ((a, oe) :: pn)) (.Name x px) (tVar i))
    (hb : attributeBase (.Name x px) f X.env (eval (.Name x px) X.env) = eval (.Name x px) X.env := by rfl) : PE (X.suite a ((a, oe) :: pn)) (.Attribute (.Name x px) f pos) (tU (km X) (J.pin a oe) W (pErr tab i f)) := by
  refine ⟨fun pins s σ H Q I ⟨F, A, sd, R, q⟩ => ?_⟩
  unfold pErr at q
  split at q
  · rename_i c g d hs
    split at q
    · rename_i ht
      obtain ⟨ht, rfl⟩ := ht
      obtain ⟨a', oe', C, q1, q2, q3, q4, q5⟩ := R.exn i c _ hs
      rw [show (J.pin a oe).pn = [(a, oe)] from by show (a, oe) :: J.pn = _; rw [hJ]] at q2
      cases List.mem_singleton.mp q2
      rcases q5 with ⟨e1, _⟩ | ⟨f', d', dx, v, e1, e2, e3, e4, e5⟩
      · cases e1
      · cases e1
        have E := T c _ C ht q4
        refine attr_of hb (thn (he.run pins s σ H (fun y H1 => y = .ref a ∧ H1 = H) I ⟨_, q1, rfl, rfl⟩) fun u s1 ⟨y, H1, I1, ry, ey, eH⟩ => ?_)
        subst ey
        subst eH
        obtain rfl : u = Value.ref a := ry
        obtain ⟨ha, _⟩ := I1.pin (a, oe) (List.mem_append_left _ List.mem_cons_self)
        obtain ⟨vs, hd⟩ := hv
        have hx : ObjOk X.prog X.w H1 s1.heap dx (.xd [(g, v)]) := I1.hok dx _ e3
        obtain ⟨mA, hns, hr⟩ := hx
        obtain ⟨od, ho, hl⟩ := lookIn_ns hns
        have l : List.lookup g [(g, v)] = some v := by simp [List.lookup]
        obtain ⟨u, hu, ru⟩ := RelO.some_of (v := v) (o := mA g) (by rw [← l]; exact hr g)
        have J1 : PySem.W.InstAt s1.heap a oe C (some od) := ⟨ha, q3, by unfold PySem.W.notCls; rw [hd] <;> rfl, by rw [e2]; exact ho⟩
        exact HandSPX.exc_get I1.kIn J1 E.ga E.gg E.exC (PySem.W.findObj_own E.hdC E.no rfl (by rw [hl, hu])) (handed_of ru) ⟨v, H1, I1.tok _, ru, q v F H1 (Grow.refl R.sub) e5⟩
    · exact q.elim
  · exact q.elim
end
end Mir
namespace L2
open PySem PySem.Spec PyProof.Rows
section
variable {X : Cx}
theorem op_isB : OpR X (compareOp .Is) (fun x y H Q => ∃ b, y = .bl b ∧ (∀ r, x ≠ .ty r) ∧ Q (.bl (decide (x = .bl b))) H) := by
  intro pins s σ H x y v u Q I rx ry h
  obtain ⟨b, rfl, nt, q⟩ := h
  cases (show u = Value.bool b from ry)
  have go : plainIs v (.bool b) = true → (v == Value.bool b) = decide (x = .bl b) → wpAny (model X.prog X.w) X.A (compareOp .Is v (.bool b)) (EP X pins σ Q) X.xe s := fun h1 h2 => wpAny_is_plain h1 ⟨.bl _, H, I, by rw [h2]; rfl, q⟩
  cases x with
  | non => cases rx; exact go rfl rfl
  | bl c => cases rx; exact go rfl (by cases c <;> cases b <;> rfl)
  | int i => obtain ⟨t, rfl⟩ := rx; exact go rfl rfl
  | str i => obtain ⟨t, rfl⟩ := rx; exact go rfl rfl
  | byt i => obtain ⟨t, rfl⟩ := rx; exact go rfl rfl
  | flt i => obtain ⟨t, rfl⟩ := rx; exact go rfl rfl
  | ref a => cases rx; exact go rfl rfl
  | ty n => exact absurd rfl (nt n)
theorem op_isnotB : OpR X (compareOp .IsNot) (fun x y H Q => ∃ b, y = .bl b ∧ (∀ r, x ≠ .ty r) ∧ Q (.bl (!decide (x = .bl b))) H) := by
  intro pins s σ H x y v u Q I rx ry h
  obtain ⟨b, rfl, nt, q⟩ := h
  cases (show u = Value.bool b from ry)
  have go : plainIs v (.bool b) = true → (v == Value.bool b) = decide (x = .bl b) → wpAny (model X.prog X.w) X.A (compareOp .IsNot v (.bool b)) (EP X pins σ Q) X.xe s := fun h1 h2 => wpAny_isNot_plain h1 ⟨.bl _, H, I, by rw [h2]; rfl, q⟩
  cases x with
  | non => cases rx; exact go rfl rfl
  | bl c => cases rx; exact go rfl (by cases c <;> cases b <;> rfl)
  | int i => obtain ⟨t, rfl⟩ := rx; exact go rfl rfl
  | str i => obtain ⟨t, rfl⟩ := rx; exact go rfl rfl
  | byt i => obtain ⟨t, rfl⟩ := rx; exact go rfl rfl
  | flt i => obtain ⟨t, rfl⟩ := rx; exact go rfl rfl
  | ref a => cases rx; exact go rfl rfl
  | ty n => exact absurd rfl (nt n)
end
end L2
namespace Mir
open PySem PySem.Spec PyProof.Rows L2
section
variable {X : Cx} {J : Anc} {W : WX} {σ : L2.St} {A : Addr → Prop} {F H : Hp} {s : En} {K : PySem.W.Frag} {mg : Str → Option Value}

/-! ### a call of a def, nothing lent -/
def pCall (n : Nat) (f : List D → Out) (m : MPs) : MP := fun s => (m s).bind fun ds => if ds.length = n then match f ds with
  | .rt d _ => .ok d
  | .ex c fs _ => .ex c fs
  | _ => .bad
  else .bad
theorem relA_nil {ds : List D} {vs : List V} (s : Sub F H) (r : Reps K mg F ds vs) : RelA K mg F H (args [] ds) (vs.map some) (fun _ => False) := by
  refine ⟨s, fun i d hi => ?_, ⟨fun _ => [], fun i d hi => ?_, fun i j a hi => (by cases hi), fun i a hi => (by cases hi)⟩, fun a h => h.elim, fun a h => h.elim⟩
  · rw [args_nilD] at hi
    cases ed : ds[i]? with
    | none => rw [ed] at hi; cases hi
    | some y =>
      rw [ed] at hi; cases hi
      obtain ⟨v, v1, v2⟩ := r.get ed
      exact ⟨v, by simpa using v1, v2⟩
  · rw [args_nilD] at hi
    cases ed : ds[i]? with
    | none => rw [ed] at hi; cases hi
    | some y => rw [ed] at hi; cases hi
theorem stp_nil {A1 : Addr → Prop} {F1 H1 : Hp} (S : Stp (fun _ => False) F H A1 F1 H1) (s : Sub F1 H1) : Grow F H F1 H1 :=
  ⟨S.mono, fun a o h => S.keep a o h fun z => z, fun a o h n => (S.new a o h n).elim id fun z => z.elim, s⟩
theorem sp_run {n : Nat} {f : List D → Out} {ds : List D} {vs : List V} {Q : VK} {E : XK} (s : Sub F H) (r : Reps K mg F ds vs) (hn : ds.length = n)
    (h : match f ds with
      | .rt d _ => ∀ v F' H', Grow F H F' H' → Rep K mg F' d v → Q v H'
      | .ex c fs _ => ∀ (cls : Value) (dx : Option Addr) (F' H' : Hp) (A' : Addr → Prop), Grow F H F' H' → (∀ a, A' a → Mut (H' a)) → (∃ C : Addr, mg c = some (.ref C) ∧ cls = .ref C ∧ ((fs = [] ∧ dx = none) ∨ ∃ (f : Str) (d : D) (a : Addr) (v : V), fs = [(f, d)] ∧ dx = some a ∧ H' a = some (.xd [(f, v)]) ∧ ¬ A' a ∧ Rep K mg F' d v)) → E cls dx H'
      | _ => False) : spM K mg n [] f vs H Q E := by
  refine ⟨by rw [← r.length]; exact hn, F, fun _ => False, ds, r.length, relA_nil s r, ?_⟩
  cases ef : f ds with
  | rt d r => rw [ef] at h; exact fun v F1 H1 A1 S RA rv => h v F1 H1 (stp_nil S RA.sub) rv
  | ex c fs r => rw [ef] at h; exact fun cls dx F1 H1 A1 S RA x => h cls dx F1 H1 A1 (stp_nil S RA.sub) RA.there x
  | nx _ => rw [ef] at h; exact h
  | bk _ => rw [ef] at h; exact h
  | ct _ => rw [ef] at h; exact h
  | ro _ _ => rw [ef] at h; exact h.elim
  | bad => rw [ef] at h; exact h
theorem pcall_run {Q : VK} {m : MPs} {n : Nat} {f : List D → Out} : tU (km X) J W (pCall n f m) σ H Q → tCallS (spM X.K X.mg n [] f) (WE W) (tUs (km X) J W m) σ H Q := fun ⟨F, A, s, R, q⟩ =>
  bindUs (P := pR (km X)) (P' := pR (km X)) R q fun ds vs F1 H1 g R1 p q1 => by
    by_cases hn : ds.length = n
    · rw [if_pos hn] at q1
      refine sp_run R1.sub p.reps hn ?_
      cases ef : f ds with
      | rt d r => rw [ef] at q1; exact q1
      | ex c fs r =>
        rw [ef] at q1
        intro cls dx F2 H2 A' g2 hm x
        refine q1 cls dx F2 H2 g2 ?_
        obtain ⟨C, x1, x2, x3⟩ := x
        refine ⟨C, x1, x2, x3.imp id ?_⟩
        rintro ⟨fl, d, a, v, e1, e2, e3, e4, e5⟩
        refine ⟨fl, d, a, v, e1, e2, e3, fun z => ?_, e5⟩
        have m := (R1.grow g2).there a z
        rw [e3] at m; exact m
      | nx _ => rw [ef] at q1; exact q1
      | bk _ => rw [ef] at q1; exact q1
      | ct _ => rw [ef] at q1; exact q1
      | ro _ _ => rw [ef] at q1; exact q1
      | bad => rw [ef] at q1; exact q1
    · rw [if_neg hn] at q1; exact q1.elim
theorem gu_call {x : Str} {p pos : Pos} {e : Expr} {es : List Expr} {as : MPs} {n : Nat} {f : List D → Out} {k : Nat} {fa : Addr} {fd : FuncData} {ps : List Str} (tk : Takes X W) (G : FnOk X.prog X.w X.K X.mg X.base (L2.CX X.prog X.w) k fa fd ps (spM X.K X.mg n [] f)) (hr : Room k X.A) (hg : Gl X x) (hm : X.mg x = some (.ref fa)) (hk : PySem.W.keepIn X.K (.ref fa) = true) (hb : Binds X.K fd ps [])
    (ha : PA X (e :: es) (tUs (km X) J W as)) (hdb : (x == ("__debug__" : Str)) = false := by decide) (he : starEach (e :: es) X.env = (false, eval e X.env) :: starEach es X.env := by rfl) (hpl : (backTo pos (starEach es X.env)).any (·.1) = false := by rfl) :
    PE X (.Call (.Name x p) (e :: es) [] pos) (tU (km X) J W (pCall n f as)) := peImp (pe_callS G hr hg hm hk hb (fun σ => passAt tk σ) ha hdb he hpl) fun _ _ _ q => pcall_run q

/-! ### small ones -/
def isBl (b : Bool) : D → Bool
  | .bl c => c == b
  | _ => false
def fIsB : D → D → Option D
  | d, .bl b => some (.bl (isBl b d))
  | _, _ => none
def fNotB : D → D → Option D
  | d, .bl b => some (.bl (!(isBl b d)))
  | _, _ => none
theorem vw_bl {d : D} {x : V} (v : Vw K mg F H d x) (b : Bool) : (∀ r, x ≠ .ty r) ∧ decide (x = .bl b) = isBl b d := by
  cases d with
  | non => rw [v.non]; exact ⟨fun _ z => (by cases z), rfl⟩
  | bl c => rw [v.bl]; exact ⟨fun _ z => (by cases z), (by cases c <;> cases b <;> rfl)⟩
  | int i => rw [v.int]; exact ⟨fun _ z => (by cases z), rfl⟩
  | str z => rw [v.str]; exact ⟨fun _ z => (by cases z), rfl⟩
  | tup ds => obtain ⟨a, vs, rfl, _⟩ := v.tup; exact ⟨fun _ z => (by cases z), rfl⟩
  | lst ds => obtain ⟨a, vs, rfl, _⟩ := v; exact ⟨fun _ z => (by cases z), rfl⟩
  | dct ds => obtain ⟨a, _, rfl, _⟩ := v; exact ⟨fun _ z => (by cases z), rfl⟩
  | dtt ds => obtain ⟨a, _, rfl, _⟩ := v; exact ⟨fun _ z => (by cases z), rfl⟩
  | ins c fs => obtain ⟨a, _, _, _, _, rfl, _⟩ := v; exact ⟨fun _ z => (by cases z), rfl⟩
  | box d => cases (show Rep K mg F (.box d) x from v)
theorem os_isB : OpS K mg (fun x y H Q => ∃ b, y = .bl b ∧ (∀ r, x ≠ .ty r) ∧ Q (.bl (decide (x = .bl b))) H) fIsB := by
  intro F H x y d1 d2 d Q s v1 v2 e k
  unfold fIsB at e
  split at e
  · rename_i b
    cases e
    exact ⟨b, v2.bl, (vw_bl v1 b).1, by rw [(vw_bl v1 b).2]; exact k _ _ _ (Grow.refl s) (.bl _)⟩
  · cases e
theorem os_notB : OpS K mg (fun x y H Q => ∃ b, y = .bl b ∧ (∀ r, x ≠ .ty r) ∧ Q (.bl (!decide (x = .bl b))) H) fNotB := by
  intro F H x y d1 d2 d Q s v1 v2 e k
  unfold fNotB at e
  split at e
  · rename_i b
    cases e
    exact ⟨b, v2.bl, (vw_bl v1 b).1, by rw [(vw_bl v1 b).2]; exact k _ _ _ (Grow.refl s) (.bl _)⟩
  · cases e
/-- is, is not: None, flags -/
def fIs : D → D → Option D
  | d, .non => fIsN d .non
  | d, .bl b => fIsB d (.bl b)
  | _, _ => none
def fIsNot : D → D → Option D
  | d, .non => fNotN d .non
  | d, .bl b => fNotB d (.bl b)
  | _, _ => none
theorem op_isA : OpR X (compareOp .Is) (fun x y H Q => (y = .non ∧ Q (.bl (decide (x = .non))) H) ∨ ∃ b, y = .bl b ∧ (∀ r, x ≠ .ty r) ∧ Q (.bl (decide (x = .bl b))) H) := op_isN.or op_isB
theorem op_isNotA : OpR X (compareOp .IsNot) (fun x y H Q => (y = .non ∧ Q (.bl (!decide (x = .non))) H) ∨ ∃ b, y = .bl b ∧ (∀ r, x ≠ .ty r) ∧ Q (.bl (!decide (x = .bl b))) H) := op_notN.or op_isnotB
theorem os_isA : OpS K mg (fun x y H Q => (y = .non ∧ Q (.bl (decide (x = .non))) H) ∨ ∃ b, y = .bl b ∧ (∀ r, x ≠ .ty r) ∧ Q (.bl (decide (x = .bl b))) H) fIs := by
  intro F H x y d1 d2 d Q s v1 v2 e k
  unfold fIs at e
  split at e
  · exact .inl (os_isN F H x y _ _ d Q s v1 v2 e k)
  · exact .inr (os_isB F H x y _ _ d Q s v1 v2 e k)
  · cases e
theorem os_isNotA : OpS K mg (fun x y H Q => (y = .non ∧ Q (.bl (!decide (x = .non))) H) ∨ ∃ b, y = .bl b ∧ (∀ r, x ≠ .ty r) ∧ Q (.bl (!decide (x = .bl b))) H) fIsNot := by
  intro F H x y d1 d2 d Q s v1 v2 e k
  unfold fIsNot at e
  split at e
  · exact .inl (os_notN F H x y _ _ d Q s v1 v2 e k)
  · exact .inr (os_notB F H x y _ _ d Q s v1 v2 e k)
  · cases e
theorem fs_int : FnS K mg (fun xs H Q => (∃ i, xs = [.int i] ∧ Q (.int i) H) ∨ ∃ k, xs = [.bl k] ∧ Q (.int (if k then 1 else 0)) H) fInt := by
  intro F H vs ds d Q s v e k
  unfold fInt at e
  split at e
  · cases e
    obtain ⟨x, rfl, w⟩ := v.one
    rw [w.int]
    exact .inl ⟨_, rfl, k _ _ _ (Grow.refl s) (.int _)⟩
  · cases e
    obtain ⟨x, rfl, w⟩ := v.one
    rw [w.bl]
    exact .inr ⟨_, rfl, k _ _ _ (Grow.refl s) (.int _)⟩
  · cases e
def fMax2 : List D → Option D
  | [.int i, .int j] => some (.int (if j > i then j else i))
  | _ => none
def fMin2 : List D → Option D
  | [.int i, .int j] => some (.int (if j < i then j else i))
  | _ => none
theorem fs_max2 : FnS K mg (fun xs H Q => ∃ i j, xs = [.int i, .int j] ∧ Q (.int (if j > i then j else i)) H) fMax2 := by
  intro F H vs ds d Q s v e k
  unfold fMax2 at e
  split at e
  · cases e
    obtain ⟨x, y, rfl, w1, w2⟩ := v.two
    rw [w1.int, w2.int]
    exact ⟨_, _, rfl, k _ _ _ (Grow.refl s) (.int _)⟩
  · cases e
theorem fs_min2 : FnS K mg (fun xs H Q => ∃ i j, xs = [.int i, .int j] ∧ Q (.int (if j < i then j else i)) H) fMin2 := by
  intro F H vs ds d Q s v e k
  unfold fMin2 at e
  split at e
  · cases e
    obtain ⟨x, y, rfl, w1, w2⟩ := v.two
    rw [w1.int, w2.int]
    exact ⟨_, _, rfl, k _ _ _ (Grow.refl s) (.int _)⟩
  · cases e
/-- <= of two numbers, of two tuples of numbers -/
def lexLe (ns ms : List Int) : Bool := Ob.lexAt (fun j => decide (ns.getD j 0 = ms.getD j 0)) (fun j => decide (ns.getD j 0 ≤ ms.getD j 0)) (decide (ns.length ≤ ms.length)) 0 (min ns.length ms.length)
def fLeA : D → D → Option D
  | .int i, .int j => some (.bl (decide (i ≤ j)))
  | .tup xs, .tup ys => match intsD xs, intsD ys with
    | some ns, some ms => some (.bl (lexLe ns ms))
    | _, _ => none
  | _, _ => none
theorem op_leA (hu : X.A.units < cLine) : OpR X (compareOp .LtE) (fun x y H Q => rI0 (fun i j => .bl (decide (i ≤ j))) x y H Q ∨ rLeT X.K x y H Q) := op_le.or (op_leT hu)
theorem os_leA : OpS K mg (fun x y H Q => rI0 (fun i j => .bl (decide (i ≤ j))) x y H Q ∨ rLeT K x y H Q) fLeA := by
  intro F H x y d1 d2 d Q s v1 v2 e k
  unfold fLeA at e
  split at e
  · cases e
    exact .inl ⟨_, _, v1.int, v2.int, k _ _ _ (Grow.refl s) (.bl _)⟩
  · split at e
    · rename_i ns ms e1 e2
      cases e
      obtain ⟨a, vs, rfl, h1, r1⟩ := v1.tup
      obtain ⟨b, us, rfl, h2, r2⟩ := v2.tup
      have z1 := ints_rep e1 r1
      have z2 := ints_rep e2 r2
      subst z1 z2
      exact .inr ⟨a, b, ns, ms, rfl, rfl, s.sqT h1, s.sqT h2, k _ _ _ (Grow.refl s) (.bl _)⟩
    · cases e
  · cases e
/-- in, not in: flat items; dicts -/
def eqF : D → D → Bool
  | .non, .non => true
  | .bl a, .bl b => a == b
  | .bl a, .int b => (if a then 1 else 0) == b
  | .int a, .bl b => a == (if b then 1 else 0)
  | .int a, .int b => a == b
  | .str a, .str b => a == b
  | _, _ => false
def fInF (neg : Bool) : D → D → Option D
  | x, .tup ds => if flatD x = true ∧ ds.all flatD = true then some (.bl (xor neg (ds.any fun z => eqF z x))) else none
  | x, .lst ds => if flatD x = true ∧ ds.all flatD = true then some (.bl (xor neg (ds.any fun z => eqF z x))) else none
  | x, .dct kvs => (dGet (.dct kvs) x).map fun o => .bl (xor neg o.isSome)
  | x, .dtt kvs => (dGet (.dtt kvs) x).map fun o => .bl (xor neg o.isSome)
  | _, _ => none
theorem flat_rep {d : D} {v : V} (h : flatD d = true) (r : Vw K mg F H d v) : flatV v = true := by
  cases d with
  | non => rw [r.non]; rfl
  | bl b => rw [r.bl]; rfl
  | int i => rw [r.int]; rfl
  | str z => rw [r.str]; rfl
  | _ => cases h
theorem flats_rep : ∀ {ds : List D} {vs : List V}, ds.all flatD = true → Reps K mg F ds vs → vs.all flatV = true
  | _, _, _, .nil => rfl
  | _, _, h, .cons r t => by
    rw [List.all_cons, Bool.and_eq_true] at h ⊢
    exact ⟨flat_rep (H := F) h.1 (.rep (Sub.refl F) r), flats_rep h.2 t⟩
theorem eqF_rep {a b : D} {x y : V} (ha : flatD a = true) (hb : flatD b = true) (r : Vw K mg F H a x) (q : Vw K mg F H b y) : eqF a b = eqV x y := by
  cases a with
  | non => rw [r.non]; cases b with
    | non => rw [q.non]; rfl
    | bl b => rw [q.bl]; rfl
    | int i => rw [q.int]; rfl
    | str z => rw [q.str]; rfl
    | _ => cases hb
  | bl c => rw [r.bl]; cases b with
    | non => rw [q.non]; rfl
    | bl b => rw [q.bl]; rfl
    | int i => rw [q.int]; rfl
    | str z => rw [q.str]; rfl
    | _ => cases hb
  | int i => rw [r.int]; cases b with
    | non => rw [q.non]; rfl
    | bl b => rw [q.bl]; rfl
    | int i => rw [q.int]; rfl
    | str z => rw [q.str]; rfl
    | _ => cases hb
  | str z => rw [r.str]; cases b with
    | non => rw [q.non]; rfl
    | bl b => rw [q.bl]; rfl
    | int i => rw [q.int]; rfl
    | str z => rw [q.str]; rfl
    | _ => cases hb
  | _ => cases ha
theorem any_rep {x : D} {v : V} (hx : flatD x = true) (r : Vw K mg F H x v) (s : Sub F H) : ∀ {ds : List D} {vs : List V}, ds.all flatD = true → Reps K mg F ds vs → (ds.any fun z => eqF z x) = inV v vs
  | _, _, _, .nil => rfl
  | _, _, h, .cons r' t => by
    rw [List.all_cons, Bool.and_eq_true] at h
    show (_ || _) = (_ || _)
    dsimp only
    rw [eqF_rep h.1 hx (.rep s r') r]
    exact congrArg _ (any_rep hx r s h.2 t)
theorem op_inA (hu : X.A.units + 1 < cLine) : OpR X (compareOp .In) (fun x y H Q => rIn X.K false x y H Q ∨ rInDc X.K false x y H Q) := op_in_seq.or (op_inDc hu)
theorem op_notInA (hu : X.A.units + 1 < cLine) : OpR X (compareOp .NotIn) (fun x y H Q => rIn X.K true x y H Q ∨ rInDc X.K true x y H Q) := op_notIn_seq.or (op_notInDc hu)
theorem os_in (neg : Bool) : OpS K mg (fun x y H Q => rIn K neg x y H Q ∨ rInDc K neg x y H Q) (fInF neg) := by
  intro F H x y d1 d2 d Q s v1 v2 e k
  have fin : ∀ b : Bool, (if neg = true then !b else b) = xor neg b := fun b => by cases neg <;> simp
  have hd : ∀ (dd : D), (dGet dd d1).map (fun o => D.bl (xor neg o.isSome)) = some d → Vw K mg F H dd y → rInDc K neg x y H Q := fun dd e w => by
    cases q : dGet dd d1 with
    | none => rw [q] at e; cases e
    | some o =>
      rw [q] at e
      cases e
      obtain ⟨a, ov, rfl, g, r⟩ := dGet_run s q w v1
      refine ⟨a, ov, rfl, g, ?_⟩
      have : ov.isSome = o.isSome := by
        cases o with
        | none => rw [show ov = none from r]; rfl
        | some d => obtain ⟨v, rfl, _⟩ := r; rfl
      rw [this]
      exact k _ _ _ (Grow.refl s) (.bl _)
  unfold fInF at e
  split at e
  · split at e
    · rename_i ds hz
      cases e
      obtain ⟨a, vs, rfl, h1, r1⟩ := v2.tup
      refine .inl ⟨a, vs, rfl, .inr (s.sqT h1), flat_rep hz.1 v1, flats_rep hz.2 r1, ?_⟩
      rw [fin, ← any_rep hz.1 v1 s hz.2 r1]
      exact k _ _ _ (Grow.refl s) (.bl _)
    · cases e
  · split at e
    · rename_i ds hz
      cases e
      obtain ⟨a, vs, rfl, h1, r1⟩ := v2
      refine .inl ⟨a, vs, rfl, .inl h1, flat_rep hz.1 v1, flats_rep hz.2 r1, ?_⟩
      rw [fin, ← any_rep hz.1 v1 s hz.2 r1]
      exact k _ _ _ (Grow.refl s) (.bl _)
    · cases e
  · exact .inr (hd _ e v2)
  · exact .inr (hd _ e v2)
  · cases e

/-! ### isinstance -/
/-- what the text says of its classes -/
structure InsCls (K : PySem.W.Frag) (C : Addr) : Prop where
  cl : Cls K C
  ha : PySem.W.findIn K (.ref C) "__class__" = some (some (.builtin "object.__class__"))
  hn : PySem.W.specialIn K (.builtin "object.__class__") "__get__" = some (some (.builtin "getset_descriptor.__get__"))
  htk : PySem.W.takesIn K (.builtin "object.__class__") = some true
  hm : PySem.W.mroIn K C (.type "object") = some true
def tagB : D → Option String
  | .non => some "NoneType"
  | .bl _ => some "bool"
  | .int _ => some "int"
  | .str _ => some "str"
  | .tup _ => some "tuple"
  | .lst _ => some "list"
  | .dct _ => some "dict"
  | .dtt _ => some "dict"
  | _ => none
/-- isinstance(x, u): of which built-in kinds, of which own classes -/
def isiB (ys : List String) (ns : List String) (yc nc : List Str) : D → Option Bool := fun d => match tagB d with
  | some n => if n ∈ ys then some true else if n ∈ ns then some false else none
  | none => match d with
    | .ins c _ => if c ∈ yc then some true else if c ∈ nc then some false else none
    | _ => none
structure IsiOk (K : PySem.W.Frag) (mg : Str → Option Value) (u : Value) (ys ns : List String) (yc nc : List Str) : Prop where
  y : ∀ n ∈ ys, PySem.W.kitOne K (.type n) u = some true
  n : ∀ n ∈ ns, PySem.W.kitOne K (.type n) u = some false
  yc : ∀ c ∈ yc, ∀ C, mg c = some (.ref C) → InsCls K C ∧ PySem.W.kitOne K (.ref C) u = some true
  nc : ∀ c ∈ nc, ∀ C, mg c = some (.ref C) → InsCls K C ∧ PySem.W.kitOne K (.ref C) u = some false
theorem SqT.tyx {a : Addr} {vs : List V} (h : SqT K H a vs) : TyX K H (.ref a) (.type "tuple") := by
  rcases h with (h | ⟨o, h⟩) | ⟨o, _, _, h, hc, _⟩
  · exact .base (.tup h)
  · exact .fTuple h
  · exact .kTuple h hc
theorem isi_ty {d : D} {x : V} {u : Value} {ys ns : List String} {yc nc : List Str} {b : Bool} (T : IsiOk K mg u ys ns yc nc) (s : Sub F H) (w : Vw K mg F H d x) (e : isiB ys ns yc nc d = some b) : ∃ t, TyX K H x t ∧ PySem.W.kitOne K t u = some b := by
  have hb : ∀ n, tagB d = some n → TyX K H x (.type n) → ∃ t, TyX K H x t ∧ PySem.W.kitOne K t u = some b := fun n hn ht => by
    unfold isiB at e
    rw [hn] at e
    dsimp only at e
    split at e
    · rename_i h; cases e; exact ⟨_, ht, T.y n h⟩
    · split at e
      · rename_i h; cases e; exact ⟨_, ht, T.n n h⟩
      · cases e
  cases d with
  | non => rw [w.non]; rw [w.non] at hb; exact hb _ rfl (.base .non)
  | bl c => rw [w.bl]; rw [w.bl] at hb; exact hb _ rfl (.base (.bl c))
  | int i => rw [w.int]; rw [w.int] at hb; exact hb _ rfl (.base (.int i))
  | str z => rw [w.str]; rw [w.str] at hb; exact hb _ rfl (.base (.str z))
  | tup ds => obtain ⟨a, vs, rfl, h, _⟩ := w.tup; exact hb _ rfl (SqT.tyx (s.sqT h))
  | lst ds =>
    obtain ⟨a, vs, rfl, h, _⟩ := w
    rcases h with (h | ⟨o, h⟩) | ⟨o, _, _, h, hc, _⟩
    · exact hb _ rfl (.base (.lst h))
    · exact hb _ rfl (.base (.frz h))
    · exact hb _ rfl (.kList h hc)
  | dct ds => obtain ⟨a, _, rfl, h, _⟩ := w; exact hb _ rfl (.base (.dK h))
  | dtt ds => obtain ⟨a, _, rfl, h, _⟩ := w; exact hb _ rfl (.base (.dT h))
  | ins c fs =>
    obtain ⟨a, C, dx, xs, B, rfl, h, hm, _⟩ := w
    have go : ∀ b', InsCls K C ∧ PySem.W.kitOne K (.ref C) u = some b' → ∃ t, TyX K H (.ref a) t ∧ PySem.W.kitOne K t u = some b' := fun b' ⟨i, k⟩ => ⟨_, .base (.ins h i.cl i.ha i.hn i.htk i.hm), k⟩
    unfold isiB tagB at e
    dsimp only at e
    split at e
    · rename_i hc; cases e; exact go _ (T.yc c hc C hm)
    · split at e
      · rename_i hc; cases e; exact go _ (T.nc c hc C hm)
      · cases e
  | box d => cases (show Rep K mg F (.box d) x from w)
def pIsi (f : D → Option Bool) (m : MP) : MP := fun s => (m s).bind fun d => match f d with
  | some b => .ok (.bl b)
  | none => .bad
theorem isi_run {Q : VK} {m : MP} {c : V} {u : Value} {ys ns : List String} {yc nc : List Str} (T : IsiOk X.K X.mg u ys ns yc nc) (hc : ClsV c u) : tU (km X) J W (pIsi (isiB ys ns yc nc) m) σ H Q → tCB (rIsi X.K) (tCons (tV (km X) J W m) (tCons (tC c) tNil)) σ H Q := fun ⟨F, A, s, R, q⟩ =>
  bindU (P := pV (km X)) (P' := pR (km X)) R q fun d x F1 H1 g R1 w q1 => by
    split at q1
    · rename_i b hb
      obtain ⟨t, t1, t2⟩ := isi_ty T R1.sub w hb
      exact ⟨x, c, t, u, b, rfl, hc, t1, t2, UOk.here (P := pR (km X)) R1.sub (.bl b) q1⟩
    · exact q1.elim
theorem gu_isi {e T : Expr} {p pos : Pos} {m : MP} {c : V} {u : Value} {ys ns : List String} {yc nc : List Str} (IT : IsiOk X.K X.mg u ys ns yc nc) (hc : ClsV c u) (hg : Gl X "isinstance") (hm : X.mg "isinstance" = none) (he : PE X e (tV (km X) J W m)) (hT : PE X T (tC c))
    (h1 : starEach [e, T] X.env = (false, eval e X.env) :: starEach [T] X.env := by rfl) (h2 : starEach [T] X.env = (false, eval T X.env) :: starEach [] X.env := by rfl) (hpl : (backTo pos (starEach [T] X.env)).any (·.1) = false := by rfl) :
    PE X (.Call (.Name "isinstance" p) [e, T] [] pos) (tU (km X) J W (pIsi (isiB ys ns yc nc) m)) :=
  peImp (pe_callB call_isi hg hm Boot.«isinstance» (pa_cons he (pa_cons hT pa_nil h2) h1) (by decide) (by decide) h1 hpl) fun _ _ _ q => isi_run IT hc q
end
end Mir
namespace L2
open PySem PySem.Spec PyProof.Rows
section
variable {X : Cx} {CX : CXT} {C f : Addr} {fd : FuncData} {ps : List Str} {sp : Sp} {n : Nat}
theorem op_eqOwn (F : FnOk X.prog X.w X.K X.mg X.base CX n f fd ps sp) (hs : PySem.W.findIn X.K (.ref C) "__eq__" = some (some (.ref f))) (hf : PySem.W.isFn X.K (.ref f) = true) (hb : Binds X.K fd ps []) (hx : Passes CX X (fun _ _ _ => False)) (hr : Room n X.A) (nfT : PySem.W.subIn X.K (.type "tuple") (.ref C) = some false) :
    OpR X (compareOp .Eq) (fun x y H Q => ∃ a dx fs, x = .ref a ∧ H a = some (.ins C dx fs) ∧ ((∃ b dy gs, y = .ref b ∧ H b = some (.ins C dy gs)) ∨ ∃ b ys, y = .ref b ∧ SqT X.K H b ys) ∧ sp [x, y] H (fun v H' => (∃ r, v = .bl r) ∧ Q v H') (fun _ _ _ => False)) := by
  intro pins s σ H x y v u Q I rx ry h
  obtain ⟨a, dx, fs, rfl, ha, hy, hsp⟩ := h
  cases rx
  have hl := F.len _ _ _ _ hsp
  obtain ⟨mA, J, _⟩ := ins_get I.hok ha
  obtain ⟨od, J, _⟩ := J.look
  obtain ⟨m, hF⟩ := I.fr
  have go : ∀ (tb : Value), PySem.W.Looks (model X.prog X.w) s.heap (typeOf u) tb → PySem.W.notFirst X.K C tb = true → wpAny (model X.prog X.w) X.A (richCompare .Eq (.ref a) u) (EP X pins σ Q) X.xe s := fun tb ht hn => by
    refine PySem.W.cmp_K (op := .Eq) (tb := tb) hr.units0 hF I.ok.mod.kin J ht hn hs hf ?_
    have r2 : Vals [V.ref a, y] [Value.ref a, u] := .cons rfl (.cons ry .nil)
    have e0 := I.env0
    refine wpAny_call (codeAny_mono (F.run X.A X.stack s H ⟨[.ref a, u], []⟩ [.ref a, u] [.ref a, y] _ _ hr e0 (by
      have := hb s [.ref a, u] I.kIn (by simpa using hl)
      simpa using this) r2 hsp) fun r s' hq => ?_)
    cases r with
    | error e => exact hx pins σ H s e s' I hq
    | ok fl =>
      cases fl with
      | ret w =>
        obtain ⟨z, H', I', rz, ⟨b, ez⟩, q⟩ := I.after hq
        subst ez
        cases rz
        exact ⟨.bl b, H', I', rfl, q⟩
      | next => exact False.elim hq
      | brk => exact False.elim hq
      | cont => exact False.elim hq
  rcases hy with ⟨b, dy, gs, rfl, hb'⟩ | ⟨b, ys, rfl, hb'⟩
  · cases ry
    obtain ⟨mB, J', _⟩ := ins_get I.hok hb'
    obtain ⟨od', J', _⟩ := J'.look
    exact go _ J'.type (by simp [PySem.W.notFirst])
  · cases ry
    obtain ⟨its, r, ⟨o, ho, hc, _⟩, _⟩ := I.tuple hb'
    exact go (.type "tuple") (fun A Q E s' k q => wpAny_typeOf_ref (k _ _ ho) (by rw [hc]; exact q)) (by unfold PySem.W.notFirst; rw [nfT]; simp)
end
end L2
namespace Mir
open PySem PySem.Spec PyProof.Rows L2
section
variable {X : Cx} {J : Anc} {W : WX} {σ : L2.St} {A : Addr → Prop} {F H : Hp} {s : En} {K : PySem.W.Frag} {mg : Str → Option Value}
/-- what an own == may meet -/
def eqTo (c : Str) : D → Bool
  | .ins c2 _ => c2 == c
  | .tup _ => true
  | _ => false
/-- x == y by the text's own == -/
def pEqOwn (c : Str) (f : List D → Out) (a b : MP) : MP := fun s => (a s).bind fun x => (b s).bind fun y => match x with
  | .ins c' _ => if c' = c ∧ eqTo c y = true then match f [x, y] with
    | .rt (.bl r) _ => .ok (.bl r)
    | _ => .bad
    else .bad
  | _ => .bad
theorem eqOwn_run {Q : VK} {a b : MP} {c : Str} {C : Addr} {f : List D → Out} (hm : X.mg c = some (.ref C)) : tU (km X) J W (pEqOwn c f a b) σ H Q → tOp (fun x y H Q => ∃ a dx fs, x = .ref a ∧ H a = some (.ins C dx fs) ∧ ((∃ b dy gs, y = .ref b ∧ H b = some (.ins C dy gs)) ∨ ∃ b ys, y = .ref b ∧ SqT X.K H b ys) ∧ spM X.K X.mg 2 [] f [x, y] H (fun v H' => (∃ r, v = .bl r) ∧ Q v H') (fun _ _ _ => False)) (tU (km X) J W a) (tU (km X) J W b) σ H Q := fun ⟨F, A, s, R, q⟩ =>
  bindU (P := pR (km X)) (P' := pR (km X)) R q fun x vx F1 H1 g1 R1 w1 q1 => bindU (P := pR (km X)) (P' := pR (km X)) R1 q1 fun y vy F2 H2 g2 R2 w2 q2 => by
    have w1' := w1.mono g2.f
    cases x with
    | ins c' fs =>
      dsimp only at q2
      by_cases hc : c' = c ∧ eqTo c y = true
      · rw [if_pos hc] at q2
        obtain ⟨rfl, hy⟩ := hc
        have sp : ∀ (Q' : VK), (∀ r v F' H', Grow F2 H2 F' H' → Rep X.K X.mg F' (.bl r) v → Q v H') → True := fun _ _ => trivial
        cases id w1' with
        | ins h1 hm1 r1 =>
          rename_i C1 dx a xs
          have hm1' : X.mg c' = some (Value.ref C1) := hm1
          rw [hm] at hm1'; cases hm1'
          refine ⟨a, dx, xs, rfl, R2.sub _ _ h1, ?_, sp_run R2.sub (.cons w1' (.cons w2 .nil)) rfl ?_⟩
          · cases y with
            | ins c2 gs =>
              have hy' := eq_of_beq (show (c2 == _) = true from hy)
              subst hy'
              cases w2 with
              | ins h2 hm2 r2 =>
                have hm2' : X.mg c2 = _ := hm2
                rw [hm] at hm2'; cases hm2'
                exact .inl ⟨_, _, _, rfl, R2.sub _ _ h2⟩
            | tup ds =>
              cases w2 with
              | tup h2 r2 => exact .inr ⟨_, _, rfl, R2.sub.sqT h2⟩
            | _ => cases hy
          · cases ef : f [.ins c' fs, y] with
            | rt d r =>
              rw [ef] at q2
              cases d with
              | bl b => exact fun v F' H' g rv => by cases rv; exact ⟨⟨b, rfl⟩, q2 _ F' H' g (.bl b)⟩
              | _ => exact q2.elim
            | ex c fs r => rw [ef] at q2; exact q2.elim
            | nx _ => rw [ef] at q2; exact q2.elim
            | bk _ => rw [ef] at q2; exact q2.elim
            | ct _ => rw [ef] at q2; exact q2.elim
            | ro _ _ => rw [ef] at q2; exact q2.elim
            | bad => rw [ef] at q2; exact q2.elim
      · rw [if_neg hc] at q2; exact q2.elim
    | _ => exact q2.elim
theorem gu_eqOwn {a b : Expr} {pos : Pos} {oa ob : MP} {c : Str} {C fa : Addr} {fd : FuncData} {ps : List Str} {n : Nat} {f : List D → Out} (hm : X.mg c = some (.ref C)) (G : FnOk X.prog X.w X.K X.mg X.base (L2.CX X.prog X.w) n fa fd ps (spM X.K X.mg 2 [] f)) (hs : PySem.W.findIn X.K (.ref C) "__eq__" = some (some (.ref fa))) (hf : PySem.W.isFn X.K (.ref fa) = true) (hb : Binds X.K fd ps []) (hx : Passes (L2.CX X.prog X.w) X (fun _ _ _ => False)) (hr : Room n X.A) (nfT : PySem.W.subIn X.K (.type "tuple") (.ref C) = some false)
    (ha : PE X a (tU (km X) J W oa)) (hb' : PE X b (tU (km X) J W ob)) (hmk : behindInMarks .Eq b = false := by rfl) : PE X (.Compare a [.Eq] [b] pos) (tU (km X) J W (pEqOwn c f oa ob)) :=
  peImp (pe_cmpR (op_eqOwn G hs hf hb hx hr nfT) ha hb' hmk) fun _ _ _ q => eqOwn_run hm q

/-! ### sorted -/
def fSortI : List D → Option D
  | [.lst ds] => (intsD ds).map fun ns => .lst ((ns.mergeSort fun x y => decide (x ≤ y)).map D.int)
  | _ => none
theorem ff_sortI : FnF K mg (rSortedI K) fSortI := by
  intro F H vs ds d Q s v e k
  unfold fSortI at e
  split at e
  · rename_i ds
    cases q : intsD ds with
    | none => rw [q] at e; cases e
    | some ns =>
      rw [q] at e; cases e
      obtain ⟨x, rfl, w⟩ := v.one
      obtain ⟨a, us, rfl, h1, r1⟩ := w
      have := ints_rep q r1
      subst this
      refine ⟨a, ns, rfl, h1, fun ns' p hp po hn => ?_⟩
      rw [PySem.W.os_sorted_mergeSort hp po]
      exact k p _ F H (Grow.refl s) hn ⟨_, rfl, reps_ints⟩
  · cases e
/-- sorted(set(xs)), pairs of numbers below 64 -/
def codeP (a b : Int) : Nat := a.toNat * 64 + b.toNat
def codeD : D → Option Nat
  | .tup [.int a, .int b] => if 0 ≤ a ∧ a < 64 ∧ 0 ≤ b ∧ b < 64 then some (codeP a b) else none
  | _ => none
def codesD : List D → Option (List Nat)
  | [] => some []
  | d :: ds => match codeD d, codesD ds with
    | some c, some cs => some (c :: cs)
    | _, _ => none
def pairD (c : Nat) : D := .tup [.int (c / 64 : Nat), .int (c % 64 : Nat)]
def setD (cs : List Nat) : List D := ((List.range 4096).filter fun c => cs.contains c).map pairD
def fSortS : D → Option D
  | .lst ds => match codesD ds with
    | some cs => if ds.length < 64 then some (.lst (setD cs)) else none
    | none => none
  | _ => none
def isPair (ns : List Int) : Prop := ∃ a b, ns = [a, b] ∧ 0 ≤ a ∧ a < 64 ∧ 0 ≤ b ∧ b < 64
def natC : List Int → Nat
  | [a, b] => codeP a b
  | _ => 0
theorem codes_rep : ∀ {ds : List D} {vs : List V} {cs : List Nat}, codesD ds = some cs → Reps K mg F ds vs → ∃ ks : List (Addr × List Int), vs = ks.map (fun p => V.ref p.1) ∧ (∀ p ∈ ks, SqT K F p.1 (p.2.map V.int) ∧ isPair p.2) ∧ ks.map (fun p => natC p.2) = cs
  | _, _, _, e, .nil => by cases e; exact ⟨[], rfl, fun p h => (by cases h), rfl⟩
  | d :: ds, _, _, e, .cons r t => by
    unfold codesD at e
    split at e
    · rename_i c cs e1 e2
      cases e
      obtain ⟨ks, k1, k2, k3⟩ := codes_rep e2 t
      unfold codeD at e1
      split at e1
      · split at e1
        · rename_i a b hb
          cases e1
          cases r with
          | tup h1 r1 =>
            rename_i vs0 a0
            have hv := ints_rep (ns := [a, b]) rfl r1
            subst hv
            refine ⟨(a0, [a, b]) :: ks, by rw [k1]; rfl, fun p hp => ?_, by rw [List.map_cons, k3]; rfl⟩
            rcases List.mem_cons.mp hp with z | z
            · rw [z]; exact ⟨h1, a, b, rfl, hb⟩
            · exact k2 p z
        · cases e1
      · cases e1
    · cases e
theorem strict_eq : ∀ {l m : List Nat}, l.Pairwise (· < ·) → m.Pairwise (· < ·) → (∀ x, x ∈ l ↔ x ∈ m) → l = m
  | [], [], _, _, _ => rfl
  | [], y :: m, _, _, h => absurd ((h y).mpr (List.mem_cons_self ..)) (by simp)
  | x :: l, [], _, _, h => absurd ((h x).mp (List.mem_cons_self ..)) (by simp)
  | x :: l, y :: m, hl, hm, h => by
    have h1 := List.pairwise_cons.mp hl
    have h2 := List.pairwise_cons.mp hm
    have e : x = y := by
      rcases List.mem_cons.mp ((h x).mp (List.mem_cons_self ..)) with a | a
      · exact a
      · rcases List.mem_cons.mp ((h y).mpr (List.mem_cons_self ..)) with b | b
        · exact b.symm
        · have := h2.1 x a
          have := h1.1 y b
          omega
    subst e
    rw [strict_eq h1.2 h2.2 fun z => ?_]
    constructor
    · intro hz
      rcases List.mem_cons.mp ((h z).mp (List.mem_cons_of_mem _ hz)) with a | a
      · have := h1.1 z hz; omega
      · exact a
    · intro hz
      rcases List.mem_cons.mp ((h z).mpr (List.mem_cons_of_mem _ hz)) with a | a
      · have := h2.1 z hz; omega
      · exact a
theorem natC_code {ns : List Int} (h : isPair ns) : TS.code 64 ns = (natC ns : Int) ∧ natC ns < 4096 := by
  obtain ⟨a, b, rfl, h1, h2, h3, h4⟩ := h
  rw [code_pair]
  simp only [natC, codeP]
  omega
theorem natC_inj {ns ms : List Int} (h : isPair ns) (k : isPair ms) (e : natC ns = natC ms) : ns = ms := by
  obtain ⟨a, b, rfl, h1, h2, h3, h4⟩ := h
  obtain ⟨a', b', rfl, k1, k2, k3, k4⟩ := k
  simp only [natC, codeP] at e
  have e1 : a = a' := by omega
  have e2 : b = b' := by omega
  rw [e1, e2]
theorem pair_rep {ns : List Int} {a : Addr} (h : isPair ns) (r : SqT K F a (ns.map V.int)) : Rep K mg F (pairD (natC ns)) (.ref a) := by
  obtain ⟨x, y, rfl, h1, h2, h3, h4⟩ := h
  refine .tup r ?_
  simp only [natC, codeP]
  have e1 : ((x.toNat * 64 + y.toNat) / 64 : Nat) = x.toNat := by omega
  have e2 : ((x.toNat * 64 + y.toNat) % 64 : Nat) = y.toNat := by omega
  rw [e1, e2, Int.toNat_of_nonneg h1, Int.toNat_of_nonneg h3]
  exact reps_ints (ns := [x, y])
def pSortS (m : MP) : MP := fun s => (m s).bind fun d => .of (fSortS d)
theorem sortS_run {Q : VK} {m : MP} : tU (km X) J W (pSortS m) σ H Q → tCB (rSortedT X.K X.prog X.w) (tCons (tCB (rSetOfT X.K X.prog X.w) (tCons (tV (km X) J W m) tNil)) tNil) σ H Q := fun ⟨F, A, s, R, q⟩ =>
  bindU (P := pV (km X)) (P' := pR (km X)) R q fun d x F1 H1 g R1 w q1 => UOk.ofS q1 fun d' e k => by
    unfold fSortS at e
    split at e
    · rename_i ds
      split at e
      · rename_i cs hcs
        split at e
        · rename_i hlen
          cases e
          obtain ⟨a, vs, rfl, h1, r1⟩ := w
          obtain ⟨ks, rfl, k2, k3⟩ := codes_rep hcs r1
          have hl : ks.length < 64 := by rw [← List.length_map (fun p : Addr × List Int => V.ref p.1), ← r1.length]; exact hlen
          refine ⟨a, ks, rfl, h1, fun p hp => R1.sub.sqT (k2 p hp).1, hl, fun sa L hsa l1 l2 => ?_⟩
          have sH : Mir.Sub H1 (L2.upd H1 sa (SetTO X.prog X.w sa L)) := fun b o h => by rw [L2.upd_ne (ne_of_none h hsa)]; exact h
          refine ⟨sa, L, 2, 64, rfl, L2.upd_same, fun p hp => (R1.sub.trans sH).sqT (k2 p (l1 p hp)).1, by omega, fun p hp => ?_, fun L' p hp nd hl' po hn => ?_⟩
          · obtain ⟨x, y, e, h1, h2, h3, h4⟩ := (k2 p (l1 p hp)).2
            rw [e]
            exact ⟨rfl, fun m hm => by
              rcases List.mem_cons.mp hm with z | z
              · rw [z]; exact ⟨h1, h2⟩
              · rw [List.mem_singleton.mp z]; exact ⟨h3, h4⟩⟩
          · have hsub : ∀ q ∈ L', q ∈ ks := fun q hq => l1 q (hp.subset hq)
            have hpn : H1 p = none := by
              cases e : H1 p with
              | none => rfl
              | some o => rw [sH p o e] at hn; cases hn
            have fpn : F1 p = none := by
              cases e : F1 p with
              | none => rfl
              | some o => rw [R1.sub p o e] at hpn; cases hpn
            have es : (L'.map fun q => natC q.2) = (List.range 4096).filter fun c => cs.contains c := by
              refine strict_eq ?_ ?_ fun c => ?_
              · rw [List.pairwise_map]
                have nd' : L'.Pairwise (fun q r => q.2 ≠ r.2) := List.pairwise_map.mp nd
                refine (po.and nd').imp_of_mem fun {q r} hq hr hqr => ?_
                obtain ⟨c1, _⟩ := natC_code (k2 q (hsub q hq)).2
                obtain ⟨c2, _⟩ := natC_code (k2 r (hsub r hr)).2
                have l := hqr.1
                rw [c1, c2] at l
                have n : natC q.2 ≠ natC r.2 := fun e => hqr.2 (natC_inj (k2 q (hsub q hq)).2 (k2 r (hsub r hr)).2 e)
                omega
              · exact (List.pairwise_lt_range).filter _
              · rw [List.mem_filter, List.mem_range]
                constructor
                · intro hc
                  obtain ⟨q, hq, rfl⟩ := List.mem_map.mp hc
                  refine ⟨(natC_code (k2 q (hsub q hq)).2).2, ?_⟩
                  rw [← k3]
                  exact List.contains_iff_mem.mpr (List.mem_map.mpr ⟨q, hsub q hq, rfl⟩)
                · rintro ⟨_, hc⟩
                  rw [← k3] at hc
                  obtain ⟨q, hq, rfl⟩ := List.mem_map.mp (List.contains_iff_mem.mp hc)
                  obtain ⟨r, hr, e⟩ := List.mem_map.mp (l2 q hq)
                  exact List.mem_map.mpr ⟨r, hp.symm.subset hr, by rw [e]⟩
            have reps : ∀ (l : List (Addr × List Int)), (∀ q ∈ l, q ∈ ks) → Reps X.K X.mg F1 ((l.map fun q => natC q.2).map pairD) (l.map fun q => V.ref q.1) := fun l => by
              induction l with
              | nil => intro _; exact .nil
              | cons q l ih => intro h; exact .cons (pair_rep (k2 q (h q (List.mem_cons_self ..))).2 (k2 q (h q (List.mem_cons_self ..))).1) (ih fun r hr => h r (List.mem_cons_of_mem _ hr))
            have rr := reps L' hsub
            rw [es] at rr
            have sF : Mir.Sub F1 (L2.upd F1 p (.lst (L'.map fun q => V.ref q.1))) := fun b o h => by rw [L2.upd_ne (ne_of_none h fpn)]; exact h
            refine k (.ref p) (L2.upd F1 p (.lst (L'.map fun q => V.ref q.1))) _ ⟨sF, fun b o h => ?_, fun b o h n => ?_, fun b o h => ?_⟩ (.lst (.of L2.upd_same) (rr.mono sF))
            · rw [L2.upd_ne (ne_of_none (sH b o h) hn)]; exact sH b o h
            · by_cases e : b = p
              · rw [e]; exact hpn
              · rw [L2.upd_ne e, n] at h; cases h
            · by_cases e : b = p
              · subst e; rw [L2.upd_same] at h ⊢; exact h
              · rw [L2.upd_ne e] at h ⊢; exact sH b o (R1.sub b o h)
        · cases e
      · cases e
    · cases e
theorem gu_sortS {e : Expr} {p p2 pos pos2 : Pos} {m : MP} (hc : X.calm = true) (hu : X.A.units + 64 < cLine) (hg : Gl X "sorted") (hm : X.mg "sorted" = none) (hg2 : Gl X "set") (hm2 : X.mg "set" = none) (he : PE X e (tV (km X) J W m))
    (h1 : starEach [.Call (.Name "set" p2) [e] [] pos2] X.env = (false, eval (.Call (.Name "set" p2) [e] [] pos2) X.env) :: starEach [] X.env := by rfl) (h2 : starEach [e] X.env = (false, eval e X.env) :: starEach [] X.env := by rfl) (hpl : (backTo pos (starEach [] X.env)).any (·.1) = false := by rfl) (hpl2 : (backTo pos2 (starEach [] X.env)).any (·.1) = false := by rfl) :
    PE X (.Call (.Name "sorted" p) [.Call (.Name "set" p2) [e] [] pos2] [] pos) (tU (km X) J W (pSortS m)) :=
  peImp (pe_callB (cr_sortedT hc) hg hm Boot.sorted (pa_cons (pe_callTy (cr_setOfT hc hu) hg2 hm2 Boot.set (pa_cons he pa_nil h2) (by decide) (by decide) h2 hpl2) pa_nil h1) (by decide) (by decide) h1 hpl) fun _ _ _ q => sortS_run q
/-- {} among data -/
def pNewK : MP := fun _ => .ok (.dct [])
theorem gu_dnewK {pos : Pos} : PE X (.Dict [] [] pos) (tU (km X) J W pNewK) := peImp pe_dnewK fun σ H Q ⟨F, A, s, R, q⟩ p hp => q _ _ _ (Grow.one R.sub hp) (.dK L2.upd_same .nil)
/-- a name of the module -/
theorem gu_glob {x : Str} {v : V} {d : D} {u : Value} {pos : Pos} (hg : Gl X x) (hm : X.mg x = some u) (r : RelV v u) (h : ∀ F, Rep X.K X.mg F d v) (hd : (x == ("__debug__" : Str)) = false := by decide) : PE X (.Name x pos) (tU (km X) J W (pC d)) := gu_c (pe_glob hg hm r hd) h
theorem gu_globI {x : Str} {i : Int} {t : Tok} {pos : Pos} (hg : Gl X x) (hm : X.mg x = some (.int i t)) (hd : (x == ("__debug__" : Str)) = false := by decide) : PE X (.Name x pos) (tU (km X) J W (pC (.int i))) := gu_glob (v := .int i) hg hm ⟨t, rfl⟩ (fun _ => .int i) hd
end
end Mir
namespace Mir
open PySem PySem.Spec PyProof.Rows L2
section
variable {X : Cx} {J : Anc} {W : WX} {σ : L2.St} {A : Addr → Prop} {F H : Hp} {s : En} {K : PySem.W.Frag} {mg : Str → Option Value}
/-! ### and, or, not, chains of values -/
def pAnd (a b : MP) : MP := fun s => (a s).bind fun x => match x with
  | .bl true => b s
  | .bl false => .ok (.bl false)
  | _ => .bad
def pOr (a b : MP) : MP := fun s => (a s).bind fun x => match x with
  | .bl true => .ok (.bl true)
  | .bl false => b s
  | _ => .bad
def pNot (a : MP) : MP := fun s => (a s).bind fun x => match x with
  | .bl c => .ok (.bl (!c))
  | _ => .bad
variable {a b c : Expr} {rest : List Expr} {pos : Pos} {ma mb mc : MP}
theorem gu_one {op} (h : PE X a (tU (km X) J W ma)) : PE X (.BoolOp op [a] pos) (tU (km X) J W ma) := pe_one h
theorem gu_and (ha : PE X a (tU (km X) J W ma)) (hb : PE X (.BoolOp .And (b :: rest) pos) (tU (km X) J W mb)) : PE X (.BoolOp .And (a :: b :: rest) pos) (tU (km X) J W (pAnd ma mb)) := peImp (pe_and ha hb) fun σ H Q ⟨F, A, s, R, q⟩ =>
  bindU (P := pR (km X)) (P' := pR (km X)) R q fun x v F1 H1 g1 R1 p q1 => by
    cases x with
    | bl k =>
      cases p
      cases k with
      | true => refine ⟨true, rfl, ?_⟩; rw [if_pos rfl]; exact ⟨F1, A, s, R1, q1⟩
      | false => refine ⟨false, rfl, ?_⟩; rw [if_neg (by decide)]; exact UOk.here (P := pR (km X)) R1.sub (.bl false) q1
    | _ => exact q1.elim
theorem gu_or (ha : PE X a (tU (km X) J W ma)) (hb : PE X (.BoolOp .Or (b :: rest) pos) (tU (km X) J W mb)) : PE X (.BoolOp .Or (a :: b :: rest) pos) (tU (km X) J W (pOr ma mb)) := peImp (pe_or ha hb) fun σ H Q ⟨F, A, s, R, q⟩ =>
  bindU (P := pR (km X)) (P' := pR (km X)) R q fun x v F1 H1 g1 R1 p q1 => by
    cases x with
    | bl k =>
      cases p
      cases k with
      | true => refine ⟨true, rfl, ?_⟩; rw [if_pos rfl]; exact UOk.here (P := pR (km X)) R1.sub (.bl true) q1
      | false => refine ⟨false, rfl, ?_⟩; rw [if_neg (by decide)]; exact ⟨F1, A, s, R1, q1⟩
    | _ => exact q1.elim
theorem gu_not (ha : PE X a (tU (km X) J W ma)) : PE X (.UnaryOp .Not a pos) (tU (km X) J W (pNot ma)) := peImp (pe_not ha) fun σ H Q ⟨F, A, s, R, q⟩ =>
  bindU (P := pR (km X)) (P' := pR (km X)) R q fun x v F1 H1 g1 R1 p q1 => by
    cases x with
    | bl k => cases p; exact ⟨_, rfl, UOk.here (P := pR (km X)) R1.sub (.bl _) q1⟩
    | _ => exact q1.elim
def pChain (f g : D → D → Option D) (a b c : MP) : MP := fun s => (a s).bind fun x => (b s).bind fun y => match f x y with
  | some (.bl true) => (c s).bind fun z => .of (g y z)
  | some (.bl false) => .ok (.bl false)
  | _ => .bad
theorem gu_chain {op op' : CmpOp} {r r' : R2} {f g : D → D → Option D} (ho : OpR X (compareOp op) r) (hs : OpS X.K X.mg r f) (ho' : OpR X (compareOp op') r') (hs' : OpS X.K X.mg r' g) (ha : PE X a (tV (km X) J W ma)) (hb : PE X b (tV (km X) J W mb)) (hc : PE X c (tV (km X) J W mc))
    (hm : lastMarks [op, op'] [b, c] = false := by with_unfolding_all rfl) : PE X (.Compare a [op, op'] [b, c] pos) (tU (km X) J W (pChain f g ma mb mc)) := peImp (pe_chain ho ho' ha hb hc hm) fun σ H Q ⟨F, A, s, R, q⟩ =>
  bindU (P := pV (km X)) (P' := pR (km X)) R q fun x vx F1 H1 g1 R1 w1 q1 => bindU (P := pV (km X)) (P' := pR (km X)) R1 q1 fun y vy F2 H2 g2 R2 w2 q2 => by
    cases e : f x y with
    | none => rw [e] at q2; exact q2.elim
    | some d =>
      rw [e] at q2
      cases d with
      | bl k =>
        refine hs F2 H2 vx vy x y (.bl k) _ R2.sub (w1.grow g2) w2 e fun v F3 H3 g3 rv => ?_
        cases rv
        have R3 := R2.grow g3
        have q3 := UOk.shift g3 q2
        refine ⟨k, rfl, ?_⟩
        cases k with
        | false => rw [if_neg (by decide)]; exact UOk.here (P := pR (km X)) R3.sub (.bl false) q3
        | true =>
          rw [if_pos rfl]
          exact bindU (P := pV (km X)) (P' := pR (km X)) R3 q3 fun z vz F4 H4 g4 R4 w4 q4 => UOk.ofS q4 fun d e k => hs' F4 H4 vy vz y z d Q R4.sub (w2.grow (g3.trans g4)) w4 e k
      | _ => exact q2.elim
def pIf (c a b : MP) : MP := fun s => (c s).bind fun x => match x with
  | .bl true => a s
  | .bl false => b s
  | _ => .bad
/-- a pure value as a test -/
def tPu (m : MP) : MT := mTest (mP m)
theorem gt_u {e : Expr} {m : MP} (h : PE X e (tU (km X) J W m)) (he : ∀ whole, isTrue e X.env whole = (do let v ← whole; standAt e.pos; holding [v] (truthy v)) := by intro _; rfl) : PT X e (tT (km X) J W (tPu m)) := gt_val (ge_p h) he
end

/-! ### a def whose function the head tells -/
section
variable {P : Program} {w : World} {K : PySem.W.Frag} {mg : Str → Option Value} {base : Heap}
theorem fn_mirD {x qual : Str} {st : Stmt} {f : Addr} {fd : FuncData} {N ps : List Str} {k : Nat} {m : List Bool} {b : MS} {kws : List (Str × V)} (F : FunD K x qual (defArgs st) (defBody st) (defScope st) [] kws f fd) (S : FnScope N ps (defScope st)) (hn : ps.length ≤ N.length) (hm : m.length ≤ ps.length)
    (body : ∀ (cdv : Value) (A : Around) (outer : List PySem.Env) (s : Shared) (H : Hp) (vs : List V) (E : XK), Room k (A.deeper (envOfC qual (defScope st) s.heap.objs.size f cdv)) →
      PSs (cxOf (L2.CX P w) P w K mg base N qual (defScope st) f cdv A outer s H E) (defBody st) (tS (km (cxOf (L2.CX P w) P w K mg base N qual (defScope st) f cdv A outer s H E)) (jOf m vs) (fun cls d _ H => E cls d H) b)) :
    FnOk P w K mg base (L2.CX P w) (k + 1) f fd ps (spM K mg ps.length m (fnB N.length m b)) := fn_mir (He5.fun_of F) S hn hm body
end

/-! ### the head: any facts about the written part -/
open He in
def obsM (chk : PySem.W.Frag → Bool) (fn : List DefD) (K : PySem.W.Frag) : AlD := (chk K && fn.all fun d => d.ok K, fn.map fun d => fnW K d.at_)
open He in
def SaysM (chk : PySem.W.Frag → Bool) (fn : List DefD) (K : PySem.W.Frag) : Prop := obsM chk fn K = valD fn
open He in
def obsMG (n : Nat) (chk : PySem.W.Frag → Bool) (fn : List DefD) (g : Addr → Option Obj) : AlD := obsM chk fn (frG g (asD g n))
open He in
def hookM (n : Nat) (chk : PySem.W.Frag → Bool) (fn : List DefD) : PySem.W.Hook where
  α := AlD
  obs := fun s => obsMG n chk fn s.heap.get?
  val := fun _ => valD fn
  says := fun _ h => ∃ K : PySem.W.Frag, K.In h ∧ SaysM chk fn K
  of := fun _ _ e => ⟨_, frG_in, e⟩
  keeps := fun _ _ _ ⟨K, hK, c⟩ k => ⟨K, PySem.W.Frag.In.keeps hK k, c⟩
theorem obsMG_eq {n : Nat} {chk : PySem.W.Frag → Bool} {fn : List He.DefD} {g : Addr → Option Obj} {s : Shared} (h : ∀ a, g a = s.heap.get? a) : obsMG n chk fn g = (hookM n chk fn).obs s := by
  have e : g = s.heap.get? := funext h
  rw [e] <;> rfl
section
variable {chk : PySem.W.Frag → Bool} {fn : List He.DefD} {K : PySem.W.Frag}
theorem SaysM.check (c : SaysM chk fn K) : chk K = true := (He.ba (show (chk K && fn.all fun d => d.ok K) = true from congrArg (fun z : He.AlD => z.1) c)).1
theorem SaysM.def_ (c : SaysM chk fn K) (i : Nat) {d : He.DefD} (h : fn[i]? = some d := by rfl) : ∃ fd, FunD K d.name d.qual d.params d.body d.scope (d.dvs K) (d.kws K) (He.fAd K d.at_) fd := by
  have c2 := (He.ba (show (chk K && fn.all fun d => d.ok K) = true from congrArg (fun z : He.AlD => z.1) c)).2
  have e : fn.map (fun d => He.fnW K d.at_) = fn.map He.DefD.val := congrArg (fun z : He.AlD => z.2) c
  have e2 : (fn.map fun d => He.fnW K d.at_)[i]? = (fn.map He.DefD.val)[i]? := by rw [e]
  rw [List.getElem?_map, List.getElem?_map, h] at e2
  exact He.DefD.funD (Option.some.inj e2) (List.all_eq_true.mp c2 d (List.mem_of_getElem? h))
/-- checks by name -/
def allB (l : List Bool) : Bool := l.all id
end
/-- what the judge asks of the law's def -/
theorem law_sp {K : PySem.W.Frag} {mg : Str → Option Value} {f : List D → Out} (h : ∀ ns : List Int, ns.length ≤ 63 → ∃ r, f [.lst (ns.map .int)] = .rt (.bl true) r) (H : Hp) (a : Addr) (ns : List Int) (hl : ns.length ≤ 63) (hS : SqL K H a (ns.map V.int)) :
    spM K mg 1 [] f [.ref a] H (fun v _ => v = .bl true) fun _ _ _ => False := by
  refine sp_run (Sub.refl H) (.cons (.lst hS reps_ints) .nil) rfl ?_
  obtain ⟨r, e⟩ := h ns hl
  rw [e]
  intro v F' H' g rv
  cases rv; rfl
end Mir
namespace Mir
open PySem PySem.Spec PyProof.Rows L2
section
variable {X : Cx} {J : Anc} {W : WX} {σ : L2.St} {A : Addr → Prop} {F H : Hp} {s : En} {K : PySem.W.Frag} {mg : Str → Option Value}
/-! ### tests -/
theorem tPu_run {σ : L2.St} {H : Hp} {Q : Bool → Hp → Prop} {m : MP} : tT (km X) J W (tPu m) σ H Q → tU (km X) J W m σ H fun x H1 => ∃ c, x = .bl c ∧ Q c H1 := fun h => by
  obtain ⟨F, A, s, R, q⟩ := h
  refine ⟨F, A, s, R, ?_⟩
  unfold tPu mTest mP at q
  cases e : m s with
  | bad => rw [e] at q; exact q
  | ex c fs => rw [e] at q; exact fun cls dx F1 H1 g x => q cls dx F1 H1 A g.stp (R.grow g) x
  | ok d =>
    rw [e] at q
    intro v F1 H1 g p
    cases d with
    | bl b => cases p; exact ⟨b, rfl, q b F1 H1 A g.stp (R.grow g) rfl⟩
    | _ => exact q.elim
theorem gt_cmpU {a b : Expr} {op : CmpOp} {pos : Pos} {oa ob : MP} {r : R2} {f : D → D → Option D} (ho : OpR X (compareOp op) r) (hs : OpS X.K X.mg r f) (ha : PE X a (tV (km X) J W oa)) (hb : PE X b (tV (km X) J W ob)) (hm : behindInMarks op b = false := by rfl) :
    PT X (.Compare a [op] [b] pos) (tT (km X) J W (tPu (pOp2 f oa ob))) := ptImp (pt_cmpR ho ha hb hm) fun _ _ _ q => opU_run hs (tPu_run q)
theorem gt_chainU {a b c : Expr} {pos : Pos} {op op' : CmpOp} {ma mb mc : MP} {r r' : R2} {f g : D → D → Option D} (ho : OpR X (compareOp op) r) (hs : OpS X.K X.mg r f) (ho' : OpR X (compareOp op') r') (hs' : OpS X.K X.mg r' g) (ha : PE X a (tV (km X) J W ma)) (hb : PE X b (tV (km X) J W mb)) (hc : PE X c (tV (km X) J W mc))
    (hm : lastMarks [op, op'] [b, c] = false := by with_unfolding_all rfl) : PT X (.Compare a [op, op'] [b, c] pos) (tT (km X) J W (tPu (pChain f g ma mb mc))) := ptImp (pt_chain ho ho' ha hb hc hm) fun σ H Q h => by
  obtain ⟨F, A, s, R, q⟩ := tPu_run h
  exact bindU (P := pV (km X)) (P' := pR (km X)) R q fun x vx F1 H1 g1 R1 w1 q1 => bindU (P := pV (km X)) (P' := pR (km X)) R1 q1 fun y vy F2 H2 g2 R2 w2 q2 => by
    cases e : f x y with
    | none => rw [e] at q2; exact q2.elim
    | some d =>
      rw [e] at q2
      cases d with
      | bl k =>
        refine hs F2 H2 vx vy x y (.bl k) _ R2.sub (w1.grow g2) w2 e fun v F3 H3 g3 rv => ?_
        cases rv
        have R3 := R2.grow g3
        have q3 := UOk.shift g3 q2
        refine ⟨k, rfl, ?_⟩
        cases k with
        | false => rw [if_neg (by decide)]; exact UOk.here (P := pR (km X)) R3.sub (.bl false) q3
        | true =>
          rw [if_pos rfl]
          exact bindU (P := pV (km X)) (P' := pR (km X)) R3 q3 fun z vz F4 H4 g4 R4 w4 q4 => UOk.ofS q4 fun d e k => hs' F4 H4 vy vz y z d _ R4.sub (w2.grow (g3.trans g4)) w4 e k
      | _ => exact q2.elim
theorem gNone_len : ∀ (ds : List D) (s s' : En), gNone ds s = some s' → ds.length = 0
  | [], _, _, _ => rfl
  | _ :: _, _, _, h => by cases h
theorem gOne_len {g : D → En → Option En} {r : List D → En → Option En} {n : Nat} (h : ∀ (ds : List D) (s s' : En), r ds s = some s' → ds.length = n) : ∀ (ds : List D) (s s' : En), gOne g r ds s = some s' → ds.length = n + 1
  | [], _, _, e => by cases e
  | d :: ds, s, s', e => by
    unfold gOne at e
    dsimp only at e
    split at e
    · exact congrArg (· + 1) (h _ _ _ e)
    · cases e
end
/-! ### a def without a promise -/
theorem fn_none {P : Program} {w : World} {K : PySem.W.Frag} {mg : Str → Option Value} {base : Heap} {CX : CXT} {k n : Nat} {f : Addr} {fd : FuncData} {ps : List Str} {m : List Bool} (hn : ps.length = n) : FnOk P w K mg base CX k f fd ps (spM K mg n m fun _ => .bad) :=
  ⟨fun vs H Q E h => by rw [hn]; exact h.1, fun A outer s H args us vs Q E _ _ _ _ h => by obtain ⟨_, _, _, _, _, _, z⟩ := h; exact z.elim⟩

/-! ### what the head is asked -/
theorem allB_get {l : List Bool} (h : allB l = true) (i : Nat) {b : Bool} (hi : l[i]? = some b) : b = true := List.all_eq_true.mp h b (List.mem_of_getElem? hi)
def oexB (K : PySem.W.Frag) (C : Addr) : Bool := (match K.lookup C with
  | some ⟨.type t, _, .cls cd, sl⟩ => (match cd.mro, sl.toList with
    | .ref C' :: bm, [_, _, _, _, some (.builtin n), _] => decide (t = "type") && (decide (C' = C) && (decide (n = "ValueError.__new__") && (!cd.hasDel && (cd.hasDict && PySem.HandSPX.refsVE bm))))
    | _, _ => false)
  | _ => false) && (He.eqO (PySem.W.findIn K (.ref C) "__setattr__") (some (some (.builtin "object.__setattr__"))) && (decide (PySem.W.subIn K (.ref C) (.type "BaseException") = some true) && (decide (PySem.W.typeIn K (.ref C) = some (.type "type")) && PySem.W.keepIn K (.ref C))))
theorem oexB_ok {K : PySem.W.Frag} {C : Addr} (h : oexB K C = true) : OexC K C := by
  obtain ⟨h1, h⟩ := He.ba h
  obtain ⟨h2, h⟩ := He.ba h
  obtain ⟨h3, h⟩ := He.ba h
  obtain ⟨h4, h5⟩ := He.ba h
  refine ⟨?_, He.eqO_ok h2, of_decide_eq_true h3, of_decide_eq_true h4, h5⟩
  split at h1
  · rename_i t dd cd sl ho
    split at h1
    · rename_i C' bm k0 k1 k2 k3 n k5 hm hs
      simp only [Bool.and_eq_true, Bool.not_eq_true', decide_eq_true_eq] at h1
      obtain ⟨rfl, rfl, rfl, hdel, hd, hr⟩ := h1
      obtain ⟨nm, bs, mro, ns, qn, hdd, sn, sub, ab, col, del⟩ := cd
      dsimp only at hm hdel hd
      subst hm hdel hd
      have hsl : sl = #[k0, k1, k2, k3, some (.builtin "ValueError.__new__"), k5] := by
        obtain ⟨l⟩ := sl
        simp only at hs
        rw [hs]
      subst hsl
      exact ⟨nm, qn, ns, bs, bm, sn, sub, ab, col, dd, k0, k1, k2, k3, k5, ho, hr⟩
    · cases h1
  · cases h1
def errB (K : PySem.W.Frag) (C : Addr) (f : Str) : Bool := He.eqO (PySem.W.findIn K (.ref C) "__getattribute__") (some (some (.builtin "BaseException.__getattribute__"))) && (He.eqO (PySem.W.findIn K (.ref C) "__getattr__") (some none) && (decide (PySem.W.subIn K (.ref C) (.type "BaseException") = some true) && (PySem.W.hasDictIn K C && He.eqO (PySem.W.findIn K (.ref C) f) (some none))))
theorem errB_ok {K : PySem.W.Frag} {C : Addr} {f : Str} (h : errB K C f = true) : ErrFld K C f := by
  obtain ⟨h1, h⟩ := He.ba h
  obtain ⟨h2, h⟩ := He.ba h
  obtain ⟨h3, h⟩ := He.ba h
  obtain ⟨h4, h5⟩ := He.ba h
  exact ⟨He.eqO_ok h1, He.eqO_ok h2, of_decide_eq_true h3, h4, He.eqO_ok h5⟩
def clsB (K : PySem.W.Frag) (C : Addr) : Bool := PySem.W.plainGet K C Str.empty && (PySem.W.hasDictIn K C && (PySem.W.plainOver K C && He.eqO (PySem.W.findIn K (.ref C) "__setattr__") (some (some (.builtin "object.__setattr__")))))
theorem clsB_ok {K : PySem.W.Frag} {C : Addr} (c : clsB K C = true) : Cls K C := by
  obtain ⟨c1, c⟩ := He.ba c
  obtain ⟨c2, c⟩ := He.ba c
  obtain ⟨c3, c4⟩ := He.ba c
  exact ⟨c1, c2, c3, He.eqO_ok c4⟩
def insB (K : PySem.W.Frag) (C : Addr) : Bool := clsB K C && (He.eqO (PySem.W.findIn K (.ref C) "__class__") (some (some (.builtin "object.__class__"))) && (decide (PySem.W.specialIn K (.builtin "object.__class__") "__get__" = some (some (.builtin "getset_descriptor.__get__"))) && (decide (PySem.W.takesIn K (.builtin "object.__class__") = some true) && decide (PySem.W.mroIn K C (.type "object") = some true))))
theorem insB_ok {K : PySem.W.Frag} {C : Addr} (c : insB K C = true) : InsCls K C := by
  obtain ⟨c1, c⟩ := He.ba c
  obtain ⟨c2, c⟩ := He.ba c
  obtain ⟨c3, c⟩ := He.ba c
  obtain ⟨c4, c5⟩ := He.ba c
  exact ⟨clsB_ok c1, He.eqO_ok c2, of_decide_eq_true c3, of_decide_eq_true c4, of_decide_eq_true c5⟩
/-- fields: pairs of class and field -/
def tabF (l : List (Str × Str)) : Str → Str → Bool := fun c f => l.contains (c, f)
def fldB (K : PySem.W.Frag) (l : List (Str × Str)) : Bool := l.all fun p => clsB K (He.ga K p.1) && He.eqO (PySem.W.findIn K (.ref (He.ga K p.1)) p.2) (some none)
theorem fldB_ok {K : PySem.W.Frag} {mg : Str → Option Value} {l : List (Str × Str)} (hg : ∀ p ∈ l, mg p.1 = some (.ref (He.ga K p.1))) (h : fldB K l = true) : FldOk K mg (tabF l) := fun c f C ht hm => by
  have hp : (c, f) ∈ l := List.contains_iff_mem.mp ht
  have e := hg _ hp
  rw [show mg c = some (.ref C) from hm] at e
  obtain ⟨h1, h2⟩ := He.ba (List.all_eq_true.mp h _ hp)
  have e' : C = He.ga K c := by
    have := Option.some.inj e
    exact Value.ref.inj this
  subst e'
  exact ⟨clsB_ok h1, He.eqO_ok h2⟩
def errsB (K : PySem.W.Frag) (l : List (Str × Str)) : Bool := l.all fun p => errB K (He.ga K p.1) p.2
theorem errsB_ok {K : PySem.W.Frag} {mg : Str → Option Value} {l : List (Str × Str)} (hg : ∀ p ∈ l, mg p.1 = some (.ref (He.ga K p.1))) (h : errsB K l = true) : ErrOk K mg (tabF l) := fun c f C ht hm => by
  have hp : (c, f) ∈ l := List.contains_iff_mem.mp ht
  have e := hg _ hp
  rw [show mg c = some (.ref C) from hm] at e
  have e' : C = He.ga K c := Value.ref.inj (Option.some.inj e)
  subst e'
  exact errB_ok (List.all_eq_true.mp h _ hp)
/-- isinstance: the kinds, the own classes -/
def isiFB (K : PySem.W.Frag) (u : Value) (ys ns : List String) (yc nc : List Str) : Bool := (ys.all fun n => decide (PySem.W.kitOne K (.type n) u = some true)) && ((ns.all fun n => decide (PySem.W.kitOne K (.type n) u = some false)) &&
  ((yc.all fun c => insB K (He.ga K c) && decide (PySem.W.kitOne K (.ref (He.ga K c)) u = some true)) && (nc.all fun c => insB K (He.ga K c) && decide (PySem.W.kitOne K (.ref (He.ga K c)) u = some false))))
theorem isiFB_ok {K : PySem.W.Frag} {mg : Str → Option Value} {u : Value} {ys ns : List String} {yc nc : List Str} (hg : ∀ c, c ∈ yc ∨ c ∈ nc → mg c = some (.ref (He.ga K c))) (h : isiFB K u ys ns yc nc = true) : IsiOk K mg u ys ns yc nc := by
  obtain ⟨h1, h⟩ := He.ba h
  obtain ⟨h2, h⟩ := He.ba h
  obtain ⟨h3, h4⟩ := He.ba h
  have key : ∀ c C, c ∈ yc ∨ c ∈ nc → mg c = some (.ref C) → C = He.ga K c := fun c C hc hm => by
    have e := hg c hc
    rw [hm] at e
    exact Value.ref.inj (Option.some.inj e)
  refine ⟨fun n hn => of_decide_eq_true (List.all_eq_true.mp h1 n hn), fun n hn => of_decide_eq_true (List.all_eq_true.mp h2 n hn), fun c hc C hm => ?_, fun c hc C hm => ?_⟩
  · have := key c C (.inl hc) hm
    subst this
    obtain ⟨a, b⟩ := He.ba (List.all_eq_true.mp h3 c hc)
    exact ⟨insB_ok a, of_decide_eq_true b⟩
  · have := key c C (.inr hc) hm
    subst this
    obtain ⟨a, b⟩ := He.ba (List.all_eq_true.mp h4 c hc)
    exact ⟨insB_ok a, of_decide_eq_true b⟩
/-- except clauses: what is caught -/
def catT (yc nc : List Str) : Str → Option Bool := fun c => if c ∈ yc then some true else if c ∈ nc then some false else none
def catB (K : PySem.W.Frag) (hv : Value) (yc nc : List Str) : Bool := (yc.all fun c => decide (PySem.W.exmOne K (.ref (He.ga K c)) hv = some true)) && (nc.all fun c => decide (PySem.W.exmOne K (.ref (He.ga K c)) hv = some false))
theorem catB_ok {K : PySem.W.Frag} {mg : Str → Option Value} {hv : Value} {yc nc : List Str} (hg : ∀ c, c ∈ yc ∨ c ∈ nc → mg c = some (.ref (He.ga K c))) (h : catB K hv yc nc = true) : CatchOk K mg (catT yc nc) hv := fun c C b hb hm => by
  obtain ⟨h1, h2⟩ := He.ba h
  have key : c ∈ yc ∨ c ∈ nc → C = He.ga K c := fun hc => by
    have e := hg c hc
    rw [hm] at e
    exact Value.ref.inj (Option.some.inj e)
  unfold catT at hb
  split at hb
  · rename_i hc
    cases hb
    rw [key (.inl hc)]
    exact of_decide_eq_true (List.all_eq_true.mp h1 c hc)
  · split at hb
    · rename_i hc
      cases hb
      rw [key (.inr hc)]
      exact of_decide_eq_true (List.all_eq_true.mp h2 c hc)
    · cases hb
end Mir
namespace Mir
open PySem L2
theorem off_all {m : List Bool} {vs : List V} {l : List Nat} (h : ∀ i ∈ l, m.getD i false = false) : OffAll (jOf m vs) l := fun i hi => off_jOf (h i hi)
end Mir
namespace Mir
open PySem PySem.Spec PyProof.Rows L2
/-- no error leaves the law's def -/
theorem fn_end {P : Program} {w : World} {K : PySem.W.Frag} {mg : Str → Option Value} {base : Heap} {k : Nat} {f : Addr} {fd : FuncData} {ps : List Str} {sp : Sp} (F : FnOk P w K mg base (L2.CX P w) k f fd ps sp) :
    FnOk P w K mg base CX0 k f fd ps (fun vs H Q _ => sp vs H Q (fun _ _ _ => False)) :=
  ⟨fun vs H Q E h => F.len vs H Q _ h, fun A outer s H args us vs Q E hr he hb hv hs => codeAny_mono (F.run A outer s H args us vs Q _ hr he hb hv hs) fun r s' h => by
    cases r with
    | ok fl => cases fl <;> exact h
    | error e =>
      obtain ⟨_, _, _, _, _, _, _, _, _, _, _, _, z⟩ := h
      exact z.elim⟩
end Mir
namespace Mir
open PySem PySem.Spec PyProof.Rows L2
section
variable {X : Cx}
theorem pget_list : PGet X (rIxL X.K) := by
  intro pins s σ H x y v u Q I rx ry h
  obtain ⟨p, xs, i, z, rfl, rfl, hq, he, q⟩ := h
  cases rx
  obtain ⟨t, rfl⟩ := ry
  obtain ⟨its, r, pl, hz⟩ := I.list hq
  obtain ⟨j, h1, h2, h3, h4, h5⟩ := atI_get he
  obtain ⟨w, ew, rw'⟩ := r.get h2
  have hl := r.length
  have hn := line63
  have fin : EP X pins σ Q w s := ⟨z, H, I, rw', q⟩
  by_cases h0 : 0 ≤ i
  · have hj : i.toNat = j := by
      rw [seqIndex_of h0 h5] at h1
      exact Option.some.inj h1
    exact wpAny_getItem_list pl.isList h0 (by omega) (by rw [hj]; simpa using ew) fin
  · have hj : (i + (its.toArray.size : Int)).toNat = j := by
      rw [seqIndex_neg (by omega) h4] at h1
      rw [List.size_toArray, ← hl]
      exact Option.some.inj h1
    exact wpAny_getItem_list_neg pl.isList (by omega) (by rw [List.size_toArray] <;> omega) (by omega) (by rw [hj]; simpa using ew) fin
theorem pget_tup : PGet X (rIxT X.K) := by
  intro pins s σ H x y v u Q I rx ry h
  obtain ⟨p, xs, i, z, rfl, rfl, hq, he, q⟩ := h
  cases rx
  obtain ⟨t, rfl⟩ := ry
  obtain ⟨its, r, pl, hz⟩ := I.tuple hq
  obtain ⟨j, h1, h2, h3, h4, h5⟩ := atI_get he
  obtain ⟨w, ew, rw'⟩ := r.get h2
  have hl := r.length
  have hn := line63
  have fin : EP X pins σ Q w s := ⟨z, H, I, rw', q⟩
  exact getItem_tuple (j := j) pl (by omega) (by omega) (by rw [List.size_toArray, ← hl]; exact h1) (by simpa using ew) fin
theorem pget_str : PGet X rIxS := by
  intro pins s σ H x y v u Q I rx ry h
  obtain ⟨z, i, c, rfl, rfl, hz, he, q⟩ := h
  obtain ⟨t, rfl⟩ := rx
  obtain ⟨t', rfl⟩ := ry
  obtain ⟨j, h1, h2, h3, h4, h5⟩ := atI_get he
  have hl : z.cps.toList.length = z.length := by simp [Str.length]
  rw [hl] at h1 h4 h5
  have hn := line63
  exact getItem_str (c := c) (by
    have e1 : decide (i < -(2 ^ 63 : Int)) = false := decide_eq_false (by omega)
    have e2 : decide (i ≥ 2 ^ 63) = false := decide_eq_false (by omega)
    rw [e1, e2, Bool.or_false]) (by rw [h1]; simpa using h2) ⟨.str ⟨#[c]⟩, H, I.tok _, ⟨_, rfl⟩, q⟩
theorem pget_any (hu : X.A.units + 1 < cLine) : PGet X (fun x y H Q => rGetD X.K x y H Q ∨ rIx X.K x y H Q) := by
  intro pins s σ H x y v u Q I rx ry h
  rcases h with h | h
  · obtain ⟨a, w, rfl, g, q⟩ := h
    cases rx
    exact dS_getItem hu I g ry fun w' s' I' r' => ⟨w, H, I', r', q⟩
  · rcases h with h | h | h
    · exact pget_list pins s σ H x y v u Q I rx ry h
    · exact pget_tup pins s σ H x y v u Q I rx ry h
    · exact pget_str pins s σ H x y v u Q I rx ry h
end
section
variable {X : Cx} {J : Anc} {W : WX} {σ : L2.St} {A : Addr → Prop} {F H : Hp} {s : En} {tab : Str → Str → Bool} {i : Nat} {p : List Str}
/-! ### x op= e, ints -/
def mAugI (i : Nat) (f : Int → Int → Int) (m : ME) : MS := fun s => match s[i]? with
  | some (.d (.int a)) => (m s).out fun d s1 => match d with
    | .int b => .nx (s1.set i (.d (.int (f a b))))
    | _ => .bad
  | _ => .bad
theorem gs_augI {i : Nat} {x : Str} {e : Expr} {m : ME} {op : Operator} {f : Int → Int → Int} {pos pos' : Pos} (o : Off J i) (hN : X.N.Nodup) (hi : X.N[i]? = some x) (hx : Loc X.env.scope x) (he : PE X e (tE (km X) J W m)) (ho : PIp X op (ipI f)) (hf : X.fn x = true ∨ X.env.scope.names.lookup x = some .local := by first | exact .inl rfl | exact .inr rfl | assumption) :
    PS X (.AugAssign (.Name x pos') op e pos) (tS (km X) J W (mAugI i f m)) := psImp (ps_aug hN hi hx he ho hf) fun D σ H ⟨F, A, s, R, q⟩ => by
  unfold mAugI at q
  split at q
  · rename_i a h
    obtain ⟨v, hv, r⟩ := R.frz i _ h
    cases r
    refine ⟨_, hv, bindS (P := PRep (km X)) R q fun d s1 y F1 H1 A1 S1 R1 p q1 => ?_⟩
    split at q1
    · rename_i b
      cases p
      exact ⟨a, b, rfl, rfl, q1 _ F1 H1 A1 Stp.refl (R1.setD o (.int _))⟩
    · exact q1.elim
  · exact q.elim
/-! ### c[k] op= e, ints -/
def mAugS (tab : Str → Str → Bool) (i : Nat) (p : List Str) (f : Int → Int → Int) (mk me : MP) : MS := fun s => match atP tab i p s with
  | some (d0, c) => (mk s).out s fun k => match fAt c k with
    | some (.int a) => (me s).out s fun y => match y with
      | .int b => match stI c k (.int (f a b)) with
        | some c' => .nx (s.set i (.b (putD d0 p c')))
        | none => .bad
      | _ => .bad
    | _ => .bad
  | none => .bad
theorem store_run {D0 : Ends} {d0 c c' kd d : D} {v0 w kv v : V} (R : Rel (km X) J F H s σ A) (hs : s[i]? = some (.b d0)) (hc : subD tab d0 p = some c) (hv : σ[i]? = some (some v0)) (hr : Reach H v0 p w) (p2 : pK (km X) F H kd kv) (rd : Rep X.K X.mg F d v)
    (hc' : stI c kd d = some c') (q : SOk (km X) J W D0 A F H (.nx (s.set i (.b (putD d0 p c'))))) : rSetA w kv v H (fun H6 => D0.nx σ H6) := by
  obtain ⟨w', r1, ⟨B, ow, hB⟩, wr⟩ := R.place hs hc hv
  have := r1.det hr
  subst this
  have go : ∀ (b : Addr) (o' : HO), w' = .ref b → Own X.K X.mg F (L2.upd H b o') c' w' [b] → (∀ B, Own X.K X.mg F H c w' B → B = [b]) → D0.nx σ (L2.upd H b o') := fun b o' e1 e2 e3 => by
    obtain ⟨R3, S3⟩ := wr b o' c' e1 fun B ow => by rw [e3 B ow]; exact ⟨List.mem_singleton.mpr rfl, e2⟩
    exact q σ F _ A S3 R3
  cases ow with
  | lst h r =>
    rename_i ds vs a
    cases kd with
    | int n =>
      cases p2.1
      cases hj : ixN ds.length n with
      | none => simp [stI, hj] at hc'
      | some j =>
        simp [stI, hj] at hc'
        subst hc'
        refine .inl ⟨a, vs, n, j, rfl, rfl, h, by rw [← r.length]; exact hj, go a _ rfl (.lst L2.upd_same (r.set rd j)) fun B ow => ?_⟩
        cases ow; rfl
    | _ => simp [stI] at hc'
  | dK h r =>
    rename_i ds vs a
    cases hq : keyK kd with
    | none => simp [stI, hq] at hc'
    | some qk =>
      simp [stI, hq] at hc'
      obtain ⟨hz, rfl⟩ := hc'
      refine .inr ⟨a, _, rfl, .inl ⟨vs, qk, h, keyK_rep hq (.rep R.sub p2.1), by rw [← r.length]; exact hz, rfl⟩, go a _ rfl (.dK L2.upd_same (r.put hq rd)) fun B ow => ?_⟩
      cases ow; rfl
  | dT h r =>
    rename_i ds vs a
    cases hq : keyT kd with
    | none => simp [stI, hq] at hc'
    | some qk =>
      simp [stI, hq] at hc'
      obtain ⟨hz, rfl⟩ := hc'
      obtain ⟨b, eb, hb⟩ := p2.2 _ hq
      refine .inr ⟨a, _, rfl, .inr ⟨vs, qk, b, h, eb, hb, by rw [← r.length]; exact hz, rfl⟩, go a _ rfl (.dT L2.upd_same (r.put hq rd)) fun B ow => ?_⟩
      cases ow; rfl
  | ins _ _ _ _ => simp [stI] at hc'
theorem gs_augS {o k e : Expr} {pt pos : Pos} {mk me : MP} {op : Operator} {f : Int → Int → Int} (hu : X.A.units + 1 < cLine) (ho : PE X o (tPth (km X) J tab i p)) (hk : PE X k (tP1 (km X) J W (pK (km X)) mk)) (he : PE X e (tU (km X) J W me)) (hop : PIp X op (ipI f))
    (ha : ∀ ov iv new, augStore k ov iv new = (do holding [new, ov, iv] (setItem ov iv new); release [new, ov, iv] []; pure .next) := by intros; rfl) : PS X (.AugAssign (.Subscript o k pt) op e pos) (tS (km X) J W (mAugS tab i p f mk me)) :=
  psImp (ps_augS ho hk (pget_any hu) he hop (set_any hu) ha) fun D σ H ⟨F, A, s, R, q⟩ => by
    unfold mAugS at q
    split at q
    · rename_i d0 c hp
      obtain ⟨hs, hc⟩ := atP_some hp
      refine ⟨F, A, s, d0, c, R, hs, hc, fun v0 w hv hr => ?_⟩
      refine bindPS (P := pK (km X)) R q fun kd kv F2 H2 g2 R2 p2 q2 => ?_
      split at q2
      · rename_i a hat
        obtain ⟨w', r1, ⟨B, ow, hB⟩, _⟩ := R2.place hs hc hv
        have := r1.det (hr.mono g2.h)
        subst this
        refine os_at F2 H2 w' kv c kd (.int a) _ R2.sub (Vw.own ow) (.rep R2.sub p2.1) hat fun v F3 H3 g3 r3 => ?_
        cases r3
        have R3 := R2.grow g3
        refine bindPS (P := pR (km X)) R3 (SOk.shift g3.stp q2) fun yd yv F4 H4 g4 R4 p4 q4 => ?_
        split at q4
        · rename_i b
          cases p4
          split at q4
          · rename_i c' hc'
            refine ⟨a, b, rfl, rfl, ?_⟩
            refine store_run R4 hs hc hv ((hr.mono g2.h).mono (fun x o h => g4.h _ _ (g3.h _ _ h))) ⟨(p2.1.mono g3.f).mono g4.f, fun q hq => ?_⟩ (.int _) hc' q4
            obtain ⟨b', e1, e2⟩ := p2.2 q hq
            exact ⟨b', e1, g4.h _ _ (g3.h _ _ e2)⟩
          · exact q4.elim
        · exact q4.elim
      · exact q2.elim
    · exact q.elim
/-! ### {k: v, ..} -/
def mPairs : List (MP × MP) → En → Option (List (D × D))
  | [], _ => some []
  | (a, b) :: r, s => match a s, b s with
    | .ok k, .ok v => match keyK k, mPairs r s with
      | some _, some kvs => some ((k, v) :: kvs)
      | _, _ => none
    | _, _ => none
def putsK (acc : List (D × D)) : List (D × D) → List (D × D)
  | [] => acc
  | (k, v) :: r => match keyK k with
    | some q => putsK (putKD acc q k v) r
    | none => acc
def mDisp (ps : List (MP × MP)) : ME := fun s => match mPairs ps s with
  | some kvs => .ok (.dct (putsK [] kvs)) s
  | none => .bad
def pDisp (ps : List (MP × MP)) : MP := fun s => match mPairs ps s with
  | some kvs => .ok (.dct (putsK [] kvs))
  | none => .bad
/-- the pairs of a display -/
inductive DPs (X : Cx) (J : Anc) (W : WX) : List (Option Expr) → List Expr → List (MP × MP) → Prop
  | nil : DPs X J W [] [] []
  | cons {k v : Expr} {ks : List (Option Expr)} {vs : List Expr} {a b : MP} {r : List (MP × MP)} : PE X k (tU (km X) J W a) → PE X v (tU (km X) J W b) → DPs X J W ks vs r → DPs X J W (some k :: ks) (v :: vs) ((a, b) :: r)
theorem DPs.pps {pos : Pos} : ∀ {ks : List (Option Expr)} {vs : List Expr} {r : List (MP × MP)}, DPs X J W ks vs r → PPs X pos ks vs (r.map fun p => (tU (km X) J W p.1, tU (km X) J W p.2)) ∧ ks.all (·.isSome) = true ∧ ks.length = vs.length
  | _, _, _, .nil => ⟨pps_nil, rfl, rfl⟩
  | _, _, _, .cons hk hv h => by
    obtain ⟨h1, h2, h3⟩ := h.pps (pos := pos)
    exact ⟨pps_cons hk hv h1, by simpa using h2, by simp [h3]⟩
theorem putsK_rep {K : PySem.W.Frag} {mg : Str → Option Value} {F : Hp} : ∀ {kvs : List (D × D)} {xs : List (Key × V)} {acc : List (D × D)} {ys : List (Key × V)}, RepK K mg F acc ys → RepK K mg F kvs xs → RepK K mg F (putsK acc kvs) (mergeK ys xs)
  | [], [], _, _, h, .nil => h
  | (k, d) :: kvs, (q, v) :: xs, acc, ys, h, .cons hk hr t => by
    unfold putsK
    rw [hk]
    exact (putsK_rep (h.put hk hr) t : RepK K mg F (putsK (putKD acc q k d) kvs) (mergeK (putK ys q v) xs))
theorem pairs_run : ∀ {r : List (MP × MP)} {kvs : List (D × D)} {F H : Hp} {Q : List (V × V) → Hp → Prop}, Rel (km X) J F H s σ A → mPairs r s = some kvs → (∀ (xs : List (Key × V)) (F1 H1 : Hp), Grow F H F1 H1 → RepK X.K X.mg F1 kvs xs → Q (xs.map fun kv => (kV kv.1, kv.2)) H1) → tPairs (r.map fun p => (tU (km X) J W p.1, tU (km X) J W p.2)) σ H Q
  | [], kvs, F, H, Q, R, e, h => by
    cases e
    exact h [] F H (Grow.refl R.sub) .nil
  | (a, b) :: r, kvs, F, H, Q, R, e, h => by
    unfold mPairs at e
    split at e
    · rename_i k v ea eb
      split at e
      · rename_i q kvs' eq er
        cases e
        refine ⟨F, A, s, R, ?_⟩
        show UOk (km X) W (pR (km X)) σ A F H _ (a s)
        rw [ea]
        intro x F1 H1 g1 p1
        refine ⟨F1, A, s, R.grow g1, ?_⟩
        show UOk (km X) W (pR (km X)) σ A F1 H1 _ (b s)
        rw [eb]
        intro y F2 H2 g2 p2
        refine pairs_run ((R.grow g1).grow g2) er fun xs F3 H3 g3 p3 => ?_
        have hx : x = kV q := keyK_rep eq (.rep (R.grow g1).sub p1)
        subst hx
        exact h ((q, y) :: xs) F3 H3 ((g1.trans g2).trans g3) (.cons eq (p2.mono g3.f) p3)
      · cases e
    · cases e
theorem disp_run {ps : List (MP × MP)} {kvs : List (D × D)} (R : Rel (km X) J F H s σ A) (e : mPairs ps s = some kvs) (h15 : ps.length ≤ 15) {Q : VK}
    (h : ∀ p o F1 H1, Grow F H F1 H1 → H1 p = none → Cont X.K X.mg F1 o (.dct (putsK [] kvs)) → Q (.ref p) (L2.upd H1 p o)) : tDisp (ps.map fun p => (tU (km X) J W p.1, tU (km X) J W p.2)) σ H Q := by
  intro p hp
  have fp : F p = none := by
    cases e : F p with
    | none => rfl
    | some u => rw [R.sub p u e] at hp; cases hp
  have R1 : Rel (km X) J F (L2.upd H p (.dK [])) s σ A := by
    have nA : ∀ a, A a → a ≠ p := fun a ha z => by
      obtain ⟨u, hu⟩ := R.ex a ha
      rw [z, hp] at hu; cases hu
    have sH : Sub H (L2.upd H p (.dK [])) := fun a u h => by rw [L2.upd_ne (ne_of_none h hp)]; exact h
    refine ⟨R.sub.trans sH, R.frz, ?_, R.free, fun a ha => ?_, fun i c fs h => ?_, R.anch, R.len⟩
    · obtain ⟨fp, h1, h2, h3⟩ := R.lay
      refine ⟨fp, fun i d e => ?_, h2, h3⟩
      obtain ⟨v, q1, q2⟩ := h1 i d e
      exact ⟨v, q1, q2.keep (Sub.refl F) fun a _ u h => sH a u h⟩
    · rw [L2.upd_ne (nA a ha)]; exact R.there a ha
    · obtain ⟨a, oe, C, q1, q2, q3, q4, q5⟩ := R.exn i c fs h
      refine ⟨a, oe, C, q1, q2, q3, q4, q5.imp id ?_⟩
      rintro ⟨f, d, dx, v, e1, e2, e3, e4, e5⟩
      exact ⟨f, d, dx, v, e1, e2, sH _ _ e3, e4, e5⟩
  refine pairs_run R1 e fun xs F1 H1 g r => ?_
  have h1 : H1 p = some (.dK []) := g.h _ _ L2.upd_same
  have f1 : F1 p = none := by
    cases e : F1 p with
    | none => rfl
    | some u => have := g.n _ _ e fp; rw [L2.upd_same] at this; cases this
  refine ⟨h1, xs, rfl, ?_, ?_⟩
  · have : ∀ {kvs : List (D × D)} {r : List (MP × MP)}, mPairs r s = some kvs → kvs.length = r.length := by
      intro kvs r
      induction r generalizing kvs with
      | nil => intro e; cases e; rfl
      | cons x r ih =>
        obtain ⟨a, b⟩ := x
        intro e
        unfold mPairs at e
        split at e
        · split at e
          · rename_i _ er; cases e; simp [ih er]
          · cases e
        · cases e
    rw [← r.length, this e]; exact h15
  · -- the heap without the new dict
    have eH : L2.upd H1 p (.dK (mergeK [] xs)) = L2.upd (fun a => if a = p then none else H1 a) p (.dK (mergeK [] xs)) := by
      funext a
      by_cases z : a = p
      · subst z; rw [L2.upd_same, L2.upd_same]
      · rw [L2.upd_ne z, L2.upd_ne z, if_neg z]
    rw [eH]
    refine h p _ F1 _ ⟨g.f, fun a o ha => ?_, fun a o ha hn => ?_, fun a o ha => ?_⟩ (if_pos rfl) ⟨_, rfl, putsK_rep .nil r⟩
    · have z : a ≠ p := ne_of_none ha hp
      rw [if_neg z]
      exact g.h _ _ (by rw [L2.upd_ne z]; exact ha)
    · have := g.n _ _ ha hn
      by_cases z : a = p
      · subst z; rw [L2.upd_same] at this; cases this
      · rw [L2.upd_ne z] at this; exact this
    · have z : a ≠ p := fun z => by rw [z, f1] at ha; cases ha
      rw [if_neg z]; exact g.s _ _ ha
theorem gf_disp {pos : Pos} {ks : List (Option Expr)} {vs : List Expr} {ps : List (MP × MP)} (h : DPs X J W ks vs ps) (h0 : ks ≠ []) (h15 : ps.length ≤ 15) : PE X (.Dict ks vs pos) (tF (km X) J W (mDisp ps)) := by
  obtain ⟨h1, h2, h3⟩ := h.pps (pos := pos)
  have hl : ks.length = ps.length := by
    clear h0 h15 h1 h2 h3
    induction h with
    | nil => rfl
    | cons _ _ _ ih => simp [ih]
  refine peImp (pe_disp h1 h2 h3 h0 (by rw [hl]; exact h15)) fun σ H Q ⟨F, A, s, R, q⟩ => ?_
  unfold mDisp at q
  split at q
  · rename_i kvs e
    exact disp_run R e h15 fun p o F1 H1 g hp c => FOk.ret (o := some (.dct (putsK [] kvs))) R q fun d e k => by cases e; exact k p o F1 H1 g hp c
  · exact q.elim
theorem gu_disp {pos : Pos} {ks : List (Option Expr)} {vs : List Expr} {ps : List (MP × MP)} (h : DPs X J W ks vs ps) (h0 : ks ≠ []) (h15 : ps.length ≤ 15) : PE X (.Dict ks vs pos) (tU (km X) J W (pDisp ps)) := by
  obtain ⟨h1, h2, h3⟩ := h.pps (pos := pos)
  have hl : ks.length = ps.length := by
    clear h0 h15 h1 h2 h3
    induction h with
    | nil => rfl
    | cons _ _ _ ih => simp [ih]
  refine peImp (pe_disp h1 h2 h3 h0 (by rw [hl]; exact h15)) fun σ H Q ⟨F, A, s, R, q⟩ => ?_
  unfold pDisp at q
  split at q
  · rename_i kvs e
    refine disp_run R e h15 fun p o F1 H1 g hp c => ?_
    obtain ⟨xs, rfl, r⟩ := c
    have g2 := Grow.one (o := .dK xs) g.s hp
    exact q _ _ _ (g.trans g2) (.dK L2.upd_same (r.mono g2.f))
  · exact q.elim
/-! ### min, max of a list of ints -/
def lmin : List Int → Option Int
  | [] => none
  | n :: ns => match lmin ns with
    | some m => some (if m < n then m else n)
    | none => some n
def lmax : List Int → Option Int
  | [] => none
  | n :: ns => match lmax ns with
    | some m => some (if n < m then m else n)
    | none => some n
theorem lmin_is : ∀ {ns : List Int} {k : Int}, lmin ns = some k → k ∈ ns ∧ ∀ y ∈ ns, k ≤ y
  | [], _, e => by cases e
  | n :: ns, k, e => by
    unfold lmin at e
    cases h : lmin ns with
    | none =>
      rw [h] at e
      cases e
      cases ns with
      | nil => simp
      | cons x xs =>
        unfold lmin at h
        split at h <;> cases h
    | some m =>
      rw [h] at e
      obtain ⟨h1, h2⟩ := lmin_is h
      cases e
      split
      · exact ⟨List.mem_cons_of_mem _ h1, fun y hy => by rcases List.mem_cons.mp hy with rfl | hy; omega; exact h2 y hy⟩
      · exact ⟨List.mem_cons_self .., fun y hy => by rcases List.mem_cons.mp hy with rfl | hy; omega; have := h2 y hy; omega⟩
theorem lmax_is : ∀ {ns : List Int} {k : Int}, lmax ns = some k → k ∈ ns ∧ ∀ y ∈ ns, y ≤ k
  | [], _, e => by cases e
  | n :: ns, k, e => by
    unfold lmax at e
    cases h : lmax ns with
    | none =>
      rw [h] at e
      cases e
      cases ns with
      | nil => simp
      | cons x xs =>
        unfold lmax at h
        split at h <;> cases h
    | some m =>
      rw [h] at e
      obtain ⟨h1, h2⟩ := lmax_is h
      cases e
      split
      · exact ⟨List.mem_cons_of_mem _ h1, fun y hy => by rcases List.mem_cons.mp hy with rfl | hy; omega; exact h2 y hy⟩
      · exact ⟨List.mem_cons_self .., fun y hy => by rcases List.mem_cons.mp hy with rfl | hy; omega; have := h2 y hy; omega⟩
def fMin1 : List D → Option D
  | [.lst ds] => ((intsD ds).bind lmin).map .int
  | _ => none
def fMax1 : List D → Option D
  | [.lst ds] => ((intsD ds).bind lmax).map .int
  | _ => none
theorem fs_min1 {K : PySem.W.Frag} {mg : Str → Option Value} : FnS K mg (rMin K) fMin1 := by
  intro F H vs ds d Q s v e k
  unfold fMin1 at e
  split at e
  · rename_i ds
    cases q : intsD ds with
    | none => rw [q] at e; cases e
    | some bs =>
      rw [q] at e
      cases hm : lmin bs with
      | none => rw [show (some bs).bind lmin = lmin bs from rfl, hm] at e; cases e
      | some m =>
        rw [show (some bs).bind lmin = lmin bs from rfl, hm] at e; cases e
        obtain ⟨x, rfl, w⟩ := v.one
        obtain ⟨a, us, rfl, h1, r1⟩ := w
        have := ints_rep q r1
        subst this
        obtain ⟨m1, m2⟩ := lmin_is hm
        refine ⟨a, bs, rfl, h1, List.length_pos_of_mem m1, fun m' h1' h2' => ?_⟩
        have : m' = m := by have := m2 m' h1'; have := h2' m m1; omega
        subst this
        exact k _ _ _ (Grow.refl s) (.int _)
  · cases e
theorem fs_max1 {K : PySem.W.Frag} {mg : Str → Option Value} : FnS K mg (rMax K) fMax1 := by
  intro F H vs ds d Q s v e k
  unfold fMax1 at e
  split at e
  · rename_i ds
    cases q : intsD ds with
    | none => rw [q] at e; cases e
    | some bs =>
      rw [q] at e
      cases hm : lmax bs with
      | none => rw [show (some bs).bind lmax = lmax bs from rfl, hm] at e; cases e
      | some m =>
        rw [show (some bs).bind lmax = lmax bs from rfl, hm] at e; cases e
        obtain ⟨x, rfl, w⟩ := v.one
        obtain ⟨a, us, rfl, h1, r1⟩ := w
        have := ints_rep q r1
        subst this
        obtain ⟨m1, m2⟩ := lmax_is hm
        refine ⟨a, bs, rfl, h1, List.length_pos_of_mem m1, fun m' h1' h2' => ?_⟩
        have : m' = m := by have := m2 m' h1'; have := h2' m m1; omega
        subst this
        exact k _ _ _ (Grow.refl s) (.int _)
  · cases e
end
end Mir
namespace L2
open PySem PySem.Spec PyProof.Rows
theorem tuple_mulS (l : Addr) (items : Array Value) (n : Nat) (dd : Option Addr) (sl : Array (Option Value)) (x : Int) (u : Tok) (c0 : (decide (x < -(2 ^ 63)) || decide (x ≥ 2 ^ 63)) = false) (c1 : (items.isEmpty || x == 1) = true) :
    Meets (Builtin.«tuple.__mul__» ⟨[.ref l, .int x u], []⟩) (fun _ R s => s.heap.get? l = some { cls := .type "tuple", dict := dd, data := .seq items n, slots := sl } ∧ R (.ok (.ret (Value.ref l))) s) :=
  .of_wp fun prog w A R s h => by
    obtain ⟨hp, g, d, tk, os⟩ := s
    obtain ⟨hl, h⟩ := h
    have f1 := AutoSeq1.idx_int
    wp_walk using wpAny_loadPart' hl
    repeat (first
      | (refine wpAny_ite_false (decide_eq_false (by rw [c0]; exact Bool.false_ne_true)) ?_; wp_walk using wpAny_loadPart' hl)
      | (refine wpAny_ite_true (decide_eq_true (by rw [c1])) ?_; wp_walk using wpAny_loadPart' hl))
    exact ⟨_, rfl, h⟩
theorem tuple_mulN (l : Addr) (items : Array Value) (n : Nat) (dd : Option Addr) (sl : Array (Option Value)) (x : Int) (u : Tok) (c0 : (decide (x < -(2 ^ 63)) || decide (x ≥ 2 ^ 63)) = false) (c1 : (items.isEmpty || x == 1) = false) (c2 : (decide (x ≤ 0) || items.isEmpty) = true) :
    Meets (Builtin.«tuple.__mul__» ⟨[.ref l, .int x u], []⟩) (fun _ R s => s.heap.get? l = some { cls := .type "tuple", dict := dd, data := .seq items n, slots := sl } ∧
      R (.ok (.ret (Value.ref s.heap.objs.size))) { s with heap := s.heap.push { cls := Value.type "tuple", data := Data.seq #[] }, toks := s.toks }) :=
  .of_wp fun prog w A R s h => by
    obtain ⟨hp, g, d, tk, os⟩ := s
    obtain ⟨hl, h⟩ := h
    have f1 := AutoSeq1.idx_int
    wp_walk using wpAny_loadPart' hl
    repeat (first
      | (refine wpAny_ite_false (decide_eq_false (by rw [c0]; exact Bool.false_ne_true)) ?_; wp_walk using wpAny_loadPart' hl)
      | (refine wpAny_ite_false (decide_eq_false (by rw [c1]; exact Bool.false_ne_true)) ?_; wp_walk using wpAny_loadPart' hl)
      | (refine wpAny_ite_true (decide_eq_true (by rw [c2])) ?_; wp_walk using wpAny_loadPart' hl))
    exact ⟨_, rfl, h⟩
def rRepA (K : PySem.W.Frag) : R2 := fun x y H Q => ∃ l k xs, x = .ref l ∧ y = .int k ∧ SqT K H l xs ∧ k.natAbs ≤ 1000000 ∧ xs.length * k.toNat ≤ 1000000 ∧ ((xs = [] ∨ k = 1) → Q (.ref l) H) ∧ (¬ (xs = [] ∨ k = 1) → ∀ p, H p = none → Q (.ref p) (upd H p (.tup (List.replicate k.toNat xs).flatten)))
section
variable {X : Cx}
theorem op_repA : OpR X (binaryOp .Mult) (rRepA X.K) := by
  intro pins s σ H x y v u Q I rx ry h
  obtain ⟨l, k, xs, rfl, rfl, hT, hk, hz, q1, q2⟩ := h
  cases rx
  obtain ⟨t, rfl⟩ := ry
  obtain ⟨its, r, ⟨⟨cls, dd, data, sl⟩, ho, hc, n, hd⟩, hs⟩ := I.tuple hT
  simp only at hc hd
  subst hc hd
  have hle : its.length = xs.length := r.length.symm
  have hsz0 : its.toArray.size = xs.length := by rw [List.size_toArray, hle]
  have c0 : (decide (k < -(2 ^ 63)) || decide (k ≥ 2 ^ 63)) = false := by
    rw [decide_eq_false (by omega), decide_eq_false (by omega)] <;> rfl
  have hi : its.toArray.isEmpty = decide (xs = []) := by
    cases its with
    | nil => simp at hle; simp [List.eq_nil_of_length_eq_zero hle.symm]
    | cons a b =>
      cases xs with
      | nil => simp at hle
      | cons _ _ => rfl
  by_cases h1 : xs = [] ∨ k = 1
  · have c1 : (its.toArray.isEmpty || k == 1) = true := by
      rw [hi]
      rcases h1 with h1 | h1
      · simp [h1]
      · simp [h1]
    refine wpAny_binaryOp_repeat_ref (T := "tuple") (U := "int") (by decide) ⟨_, ho, rfl⟩ (fun s' => typeIs_int s' k t) noFill_tuple_mul F.fills_int_mul F.slot_int_rmul repeat_tuple F.slot_int_index.lookup
      (call_meets F.slot_int_rmul (typeIs_int s k t) F.entry_int_rmul (F.args_int_rmul_2 _ _) (int_rmul_tuple k t l its.toArray n dd sl)
        ⟨ho, rfl, ⟨_, ho, rfl⟩, call_meets F.slot_tuple_mul ⟨_, ho, rfl⟩ F.entry_tuple_mul (F.args_tuple_mul_2 _ _) (tuple_mulS l its.toArray n dd sl k t c0 c1) ⟨ho, ?_⟩⟩)
    exact ⟨.ref l, H, I, rfl, q1 h1⟩
  · have hne : ¬ xs = [] := fun e => h1 (.inl e)
    have hk1 : ¬ k = 1 := fun e => h1 (.inr e)
    have hi2 : its.toArray.isEmpty = false := by rw [hi]; exact decide_eq_false hne
    have c1 : (its.toArray.isEmpty || k == 1) = false := by
      rw [hi2, Bool.false_or]
      exact beq_eq_false_iff_ne.mpr hk1
    by_cases hk0 : k ≤ 0
    · have c2 : (decide (k ≤ 0) || its.toArray.isEmpty) = true := by rw [decide_eq_true hk0]; rfl
      refine wpAny_binaryOp_repeat_ref (T := "tuple") (U := "int") (by decide) ⟨_, ho, rfl⟩ (fun s' => typeIs_int s' k t) noFill_tuple_mul F.fills_int_mul F.slot_int_rmul repeat_tuple F.slot_int_index.lookup
        (call_meets F.slot_int_rmul (typeIs_int s k t) F.entry_int_rmul (F.args_int_rmul_2 _ _) (int_rmul_tuple k t l its.toArray n dd sl)
          ⟨ho, rfl, ⟨_, ho, rfl⟩, call_meets F.slot_tuple_mul ⟨_, ho, rfl⟩ F.entry_tuple_mul (F.args_tuple_mul_2 _ _) (tuple_mulN l its.toArray n dd sl k t c0 c1 c2) ⟨ho, ?_⟩⟩)
      have e0 : k.toNat = 0 := by omega
      have q := q2 h1
      rw [e0] at q
      refine ⟨.ref s.heap.objs.size, _, I.laid (t' := s.toks) (o := .tup (List.replicate 0 xs).flatten) (fun b ob q => Heap.get?_push_of_some _ q) (Nat.le_refl _) ?_, rfl, q _ (I.hok.fresh (Nat.le_refl _))⟩
      exact ⟨by simp, _, .nil, IsTup.new _ _⟩
    · have h2 : 2 ≤ k := by omega
      have hl1 : xs.length * k.toNat ≤ 1000000 := hz
      have hm : ((its.toArray.size : Nat) : Int) * k ≤ 1000000 := by
        rw [hsz0]
        have : ((xs.length * k.toNat : Nat) : Int) ≤ 1000000 := by omega
        rw [Int.natCast_mul, Int.toNat_of_nonneg (by omega)] at this
        exact this
      have flen : (List.replicate k.toNat its).flatten.length ≤ sizeLine := by
        rw [PyProof.Rows.lm_len_rep_flat, hle, sizeLine_eq, Nat.mul_comm]
        omega
      have c2 : (decide (k ≤ 0) || its.toArray.isEmpty) = false := by
        rw [hi2, Bool.or_false]
        exact decide_eq_false hk0
      have c4 : Builtin.Tuple.tupleTooMany (((its.toArray.size : Nat) : Int) * k) = false := by
        unfold Builtin.Tuple.tupleTooMany
        rw [sizeLine_eq]
        exact decide_eq_false (by omega)
      refine wpAny_binaryOp_repeat_ref (T := "tuple") (U := "int") (by decide) ⟨_, ho, rfl⟩ (fun s' => typeIs_int s' k t) noFill_tuple_mul F.fills_int_mul F.slot_int_rmul repeat_tuple F.slot_int_index.lookup
        (call_meets F.slot_int_rmul (typeIs_int s k t) F.entry_int_rmul (F.args_int_rmul_2 _ _) (int_rmul_tuple k t l its.toArray n dd sl)
          ⟨ho, rfl, ⟨_, ho, rfl⟩, call_meets F.slot_tuple_mul ⟨_, ho, rfl⟩ F.entry_tuple_mul (F.args_tuple_mul_2 _ _) (tuple_mulW l its.toArray n dd sl k t c0 c1 c2 (by omega) c4 (by rw [size_rep, List.size_toArray]; exact flen)) ⟨ho, ?_⟩⟩)
      rw [size_rep]
      refine ⟨.ref s.heap.objs.size, _, I.laid (t' := s.toks) (o := .tup (List.replicate k.toNat xs).flatten) (fun b ob q => Heap.get?_push_of_some _ q) (Nat.le_refl _) ?_, rfl, q2 h1 _ (I.hok.fresh (Nat.le_refl _))⟩
      exact ⟨by rw [PyProof.Rows.lm_len_rep_flat, sizeLine_eq, Nat.mul_comm]; omega, _, r.rep k.toNat, IsTup.new _ _⟩
theorem or_mulA : OpR X (binaryOp .Mult) (fun x y H Q => rI CMul (fun i j => .int (i * j)) x y H Q ∨ rRepA X.K x y H Q) := op_mul.or op_repA
end
end L2
namespace Mir
open PySem PySem.Spec PyProof.Rows L2
section
variable {K : PySem.W.Frag} {mg : Str → Option Value} {F : Hp}
theorem Reps.rep {ds : List D} {vs : List V} (r : Reps K mg F ds vs) : ∀ n : Nat, Reps K mg F (List.replicate n ds).flatten (List.replicate n vs).flatten
  | 0 => .nil
  | n + 1 => by
    rw [List.replicate_succ, List.replicate_succ, List.flatten_cons, List.flatten_cons]
    exact r.append (r.rep n)
def fMulA : D → D → Option D
  | .int i, .int j => if s64 i ∨ s64 j then some (.int (i * j)) else none
  | .tup xs, .int k => if k.natAbs ≤ 1000000 ∧ xs.length * k.toNat ≤ 1000000 then some (.tup (List.replicate k.toNat xs).flatten) else none
  | _, _ => none
theorem os_mulA : OpS K mg (fun x y H Q => rI CMul (fun i j => .int (i * j)) x y H Q ∨ rRepA K x y H Q) fMulA := by
  intro F H x y d1 d2 d Q s v1 v2 e k
  unfold fMulA at e
  split at e
  · rename_i i j
    split at e
    · rename_i h
      cases e
      exact .inl ⟨i, j, v1.int, v2.int, h, k _ _ _ (Grow.refl s) (.int _)⟩
    · cases e
  · rename_i xs n
    split at e
    · rename_i h
      cases e
      obtain ⟨a, vs, rfl, ht, r⟩ := v1.tup
      have hy := v2.int
      subst hy
      have hl := r.length
      refine .inr ⟨a, n, vs, rfl, rfl, s.sqT ht, h.1, by rw [← hl]; exact h.2, fun h1 => ?_, fun h1 p hp => ?_⟩
      · refine k _ _ _ (Grow.refl s) (.tup ht ?_)
        rcases h1 with h1 | h1
        · subst h1
          cases r
          have : (List.replicate n.toNat ([] : List D)).flatten = [] := by simp
          rw [this]; exact .nil
        · subst h1
          have : (List.replicate (1 : Int).toNat xs).flatten = xs := by simp
          rw [this]; exact r
      · have g := Grow.one (o := .tup (List.replicate n.toNat vs).flatten) s hp
        exact k _ _ _ g (.tup (.inl (.inl L2.upd_same)) ((r.rep _).mono g.f))
    · cases e
  · cases e
end
section
variable {X : Cx} {J : Anc} {W : WX} {σ : L2.St} {A : Addr → Prop} {F H : Hp} {s : En}
/-- a thing that nobody looks at -/
theorem Rel.temp {p : Addr} {o : HO} (R : Rel (km X) J F H s σ A) (hp : H p = none) : Rel (km X) J F (L2.upd H p o) s σ A := by
  have nA : ∀ a, A a → a ≠ p := fun a ha z => by
    obtain ⟨u, hu⟩ := R.ex a ha
    rw [z, hp] at hu; cases hu
  have sH : Sub H (L2.upd H p o) := fun a u h => by rw [L2.upd_ne (ne_of_none h hp)]; exact h
  refine ⟨R.sub.trans sH, R.frz, ?_, R.free, fun a ha => ?_, fun i c fs h => ?_, R.anch, R.len⟩
  · obtain ⟨fp, h1, h2, h3⟩ := R.lay
    refine ⟨fp, fun i d e => ?_, h2, h3⟩
    obtain ⟨v, q1, q2⟩ := h1 i d e
    exact ⟨v, q1, q2.keep (Sub.refl F) fun a _ u h => sH a u h⟩
  · rw [L2.upd_ne (nA a ha)]; exact R.there a ha
  · obtain ⟨a, oe, C, q1, q2, q3, q4, q5⟩ := R.exn i c fs h
    refine ⟨a, oe, C, q1, q2, q3, q4, q5.imp id ?_⟩
    rintro ⟨f, d, dx, v, e1, e2, e3, e4, e5⟩
    exact ⟨f, d, dx, v, e1, e2, sH _ _ e3, e4, e5⟩
/-- [e, ..] * k, fresh -/
def mRep (m : MA) (mk : MP) : ME := fun s => (m s).bind fun as s1 => match frzs as with
  | some ds => match mk s1 with
    | .ok (.int k) => if k.natAbs ≤ 1000000 ∧ ds.length ≤ 1000 ∧ ds.length * k.toNat ≤ 1000000 then .ok (.lst (List.replicate k.toNat ds).flatten) s1 else .bad
    | _ => .bad
  | none => .bad
theorem gf_rep {es : List Expr} {k : Expr} {lp pos : Pos} {m : MA} {mk : MP} (h : PA X es (tAr (km X) J W m)) (hk : PE X k (tU (km X) J W mk)) : PE X (.BinOp (.List es lp) .Mult k pos) (tF (km X) J W (mRep m mk)) :=
  peImp (pe_op op_rep (pe_lst h) hk) fun σ H Q ⟨F, A, s, R, q⟩ => bindF (P := AR (km X) σ) R q fun as s1 vs F1 H1 A1 S1 R1 p1 q1 => by
    split at q1
    · rename_i ds e
      have r := frzs_rep p1 e
      have hl := r.length
      split at q1
      · rename_i k ek
        split at q1
        · rename_i hz
          refine ⟨by rw [← hl, sizeLine_eq]; omega, fun p hp => ?_⟩
          refine ⟨F1, A1, s1, R1.temp hp, ?_⟩
          show UOk (km X) W (pR (km X)) σ A1 F1 _ _ (mk s1)
          rw [ek]
          intro y F2 H2 g2 p2
          cases p2
          have h2 : H2 p = some (.lst vs) := g2.h _ _ L2.upd_same
          refine ⟨p, k, vs, rfl, rfl, h2, by omega, by omega, by rw [← hl, sizeLine_eq]; omega, fun p' hp' => ?_⟩
          have g : Grow F1 H1 F2 H2 := ⟨g2.f, fun a o ha => g2.h _ _ (by rw [L2.upd_ne (ne_of_none ha hp)]; exact ha), fun a o ha hn => by
            have := g2.n _ _ ha hn
            by_cases z : a = p
            · subst z; rw [L2.upd_same] at this; cases this
            · rw [L2.upd_ne z] at this; exact this, g2.s⟩
          exact FOk.ret (o := some (.lst (List.replicate k.toNat ds).flatten)) R1 q1 fun d e k => by cases e; exact k p' _ F2 H2 g hp' ⟨_, rfl, (r.rep _).mono g2.f⟩
        · exact q1.elim
      · exact q1.elim
    · exact q1.elim
end
end Mir
namespace Law
open PySem PySem.Spec PyProof.Rows L2 Mir
def top (i : Nat) : Stmt := PySem.Challenge.pw_moststream_k02_whole_streams_judged.main.body.getD i (.Pass ⟨0, 0, 0, 0⟩)
def mem (i j : Nat) : Stmt := match top i with
  | .ClassDef _ _ _ body _ _ _ _ _ _ _ => body.getD j (.Pass ⟨0, 0, 0, 0⟩)
  | _ => .Pass ⟨0, 0, 0, 0⟩
def fldL : List (Str × Str) := [("Web", "many"), ("Web", "mouth"), ("Web", "near"), ("Web", "room"), ("Web", "spring"), ("Web", "ties")]
def errL : List (Str × Str) := []
abbrev tabF0 : Str → Str → Bool := tabF fldL
abbrev tabE : Str → Str → Bool := tabF errL
abbrev isi_Web : D → Option Bool := isiB [] ["NoneType", "bool", "int", "str", "tuple", "list", "dict"] ["Web"] []
abbrev isi_int : D → Option Bool := isiB ["int", "bool"] ["NoneType", "str", "tuple", "list", "dict"] [] ["Web"]
abbrev isi_bool : D → Option Bool := isiB ["bool"] ["NoneType", "int", "str", "tuple", "list", "dict"] [] ["Web"]
abbrev isi_tuple : D → Option Bool := isiB ["tuple"] ["NoneType", "bool", "int", "str", "list", "dict"] [] ["Web"]
abbrev isi_str : D → Option Bool := isiB ["str"] ["NoneType", "bool", "int", "tuple", "list", "dict"] [] ["Web"]
abbrev isi_list : D → Option Bool := isiB ["list"] ["NoneType", "bool", "int", "str", "tuple", "dict"] [] ["Web"]
structure Tx (K : PySem.W.Frag) (mg : Str → Option Value) where
  fd_Web_eq : FuncData
  F_Web_eq : FunD K "__eq__" "Web.__eq__" (defArgs (mem 15 1)) (defBody (mem 15 1)) (defScope (mem 15 1)) [] [] (He.fAd K ("Web", some "__eq__")) fd_Web_eq
  fd_law_hand : FuncData
  F_law_hand : FunD K "_law_hand" "_law_hand" (defArgs (top 30)) (defBody (top 30)) (defScope (top 30)) [] [] (He.fAd K ("_law_hand", none)) fd_law_hand
  fd_law_take : FuncData
  F_law_take : FunD K "_law_take" "_law_take" (defArgs (top 31)) (defBody (top 31)) (defScope (top 31)) [] [] (He.fAd K ("_law_take", none)) fd_law_take
  fd_law_pick : FuncData
  F_law_pick : FunD K "_law_pick" "_law_pick" (defArgs (top 32)) (defBody (top 32)) (defScope (top 32)) [] [] (He.fAd K ("_law_pick", none)) fd_law_pick
  fd_law_units : FuncData
  F_law_units : FunD K "_law_units" "_law_units" (defArgs (top 37)) (defBody (top 37)) (defScope (top 37)) [] [] (He.fAd K ("_law_units", none)) fd_law_units
  fd_law_web : FuncData
  F_law_web : FunD K "_law_web" "_law_web" (defArgs (top 38)) (defBody (top 38)) (defScope (top 38)) [] [] (He.fAd K ("_law_web", none)) fd_law_web
  fd_is_integer : FuncData
  F_is_integer : FunD K "is_integer" "is_integer" (defArgs (top 7)) (defBody (top 7)) (defScope (top 7)) [] [] (He.fAd K ("is_integer", none)) fd_is_integer
  fd_is_within : FuncData
  F_is_within : FunD K "is_within" "is_within" (defArgs (top 8)) (defBody (top 8)) (defScope (top 8)) [] [] (He.fAd K ("is_within", none)) fd_is_within
  fd_is_below : FuncData
  F_is_below : FunD K "is_below" "is_below" (defArgs (top 9)) (defBody (top 9)) (defScope (top 9)) [] [] (He.fAd K ("is_below", none)) fd_is_below
  fd_is_sized : FuncData
  F_is_sized : FunD K "is_sized" "is_sized" (defArgs (top 10)) (defBody (top 10)) (defScope (top 10)) [] [] (He.fAd K ("is_sized", none)) fd_is_sized
  fd_is_tie : FuncData
  F_is_tie : FunD K "is_tie" "is_tie" (defArgs (top 14)) (defBody (top 14)) (defScope (top 14)) [] [] (He.fAd K ("is_tie", none)) fd_is_tie
  fd_beside : FuncData
  F_beside : FunD K "beside" "beside" (defArgs (top 16)) (defBody (top 16)) (defScope (top 16)) [] [] (He.fAd K ("beside", none)) fd_beside
  fd_Web_init : FuncData
  F_Web_init : FunD K "__init__" "Web.__init__" (defArgs (mem 15 0)) (defBody (mem 15 0)) (defScope (mem 15 0)) [] [] (He.fAd K ("Web", some "__init__")) fd_Web_init
  fd_law_web_of : FuncData
  F_law_web_of : FunD K "_law_web_of" "_law_web_of" (defArgs (top 39)) (defBody (top 39)) (defScope (top 39)) [] [] (He.fAd K ("_law_web_of", none)) fd_law_web_of
  fd_law_is_integer : FuncData
  F_law_is_integer : FunD K "_law_is_integer" "_law_is_integer" (defArgs (top 33)) (defBody (top 33)) (defScope (top 33)) [] [] (He.fAd K ("_law_is_integer", none)) fd_law_is_integer
  fd_law_same : FuncData
  F_law_same : FunD K "_law_same" "_law_same" (defArgs (top 35)) (defBody (top 35)) (defScope (top 35)) [] [] (He.fAd K ("_law_same", none)) fd_law_same
  fd_law_sizes : FuncData
  F_law_sizes : FunD K "_law_sizes" "_law_sizes" (defArgs (top 55)) (defBody (top 55)) (defScope (top 55)) [] [] (He.fAd K ("_law_sizes", none)) fd_law_sizes
  fd_law_near : FuncData
  F_law_near : FunD K "_law_near" "_law_near" (defArgs (top 40)) (defBody (top 40)) (defScope (top 40)) [] [] (He.fAd K ("_law_near", none)) fd_law_near
  fd_law_at : FuncData
  F_law_at : FunD K "_law_at" "_law_at" (defArgs (top 41)) (defBody (top 41)) (defScope (top 41)) [] [] (He.fAd K ("_law_at", none)) fd_law_at
  fd_law_lets : FuncData
  F_law_lets : FunD K "_law_lets" "_law_lets" (defArgs (top 42)) (defBody (top 42)) (defScope (top 42)) [] [] (He.fAd K ("_law_lets", none)) fd_law_lets
  fd_law_flow : FuncData
  F_law_flow : FunD K "_law_flow" "_law_flow" (defArgs (top 43)) (defBody (top 43)) (defScope (top 43)) [] [] (He.fAd K ("_law_flow", none)) fd_law_flow
  fd_law_room : FuncData
  F_law_room : FunD K "_law_room" "_law_room" (defArgs (top 44)) (defBody (top 44)) (defScope (top 44)) [] [] (He.fAd K ("_law_room", none)) fd_law_room
  fd_law_reach : FuncData
  F_law_reach : FunD K "_law_reach" "_law_reach" (defArgs (top 47)) (defBody (top 47)) (defScope (top 47)) [] [] (He.fAd K ("_law_reach", none)) fd_law_reach
  fd_law_way : FuncData
  F_law_way : FunD K "_law_way" "_law_way" (defArgs (top 48)) (defBody (top 48)) (defScope (top 48)) [] [] (He.fAd K ("_law_way", none)) fd_law_way
  fd_law_sent : FuncData
  F_law_sent : FunD K "_law_sent" "_law_sent" (defArgs (top 49)) (defBody (top 49)) (defScope (top 49)) [] [] (He.fAd K ("_law_sent", none)) fd_law_sent
  fd_law_least_room : FuncData
  F_law_least_room : FunD K "_law_least_room" "_law_least_room" (defArgs (top 50)) (defBody (top 50)) (defScope (top 50)) [] [] (He.fAd K ("_law_least_room", none)) fd_law_least_room
  fd_law_greatest : FuncData
  F_law_greatest : FunD K "_law_greatest" "_law_greatest" (defArgs (top 51)) (defBody (top 51)) (defScope (top 51)) [] [] (He.fAd K ("_law_greatest", none)) fd_law_greatest
  fd_law_ring : FuncData
  F_law_ring : FunD K "_law_ring" "_law_ring" (defArgs (top 53)) (defBody (top 53)) (defScope (top 53)) [] [] (He.fAd K ("_law_ring", none)) fd_law_ring
  fd_law_some_stream : FuncData
  F_law_some_stream : FunD K "_law_some_stream" "_law_some_stream" (defArgs (top 54)) (defBody (top 54)) (defScope (top 54)) [] [] (He.fAd K ("_law_some_stream", none)) fd_law_some_stream
  fd_law_odd : FuncData
  F_law_odd : FunD K "_law_odd" "_law_odd" (defArgs (top 36)) (defBody (top 36)) (defScope (top 36)) [] [] (He.fAd K ("_law_odd", none)) fd_law_odd
  fd_law_bent : FuncData
  F_law_bent : FunD K "_law_bent" "_law_bent" (defArgs (top 56)) (defBody (top 56)) (defScope (top 56)) [] [] (He.fAd K ("_law_bent", none)) fd_law_bent
  fd_net_of : FuncData
  F_net_of : FunD K "net_of" "net_of" (defArgs (top 20)) (defBody (top 20)) (defScope (top 20)) [] [] (He.fAd K ("net_of", none)) fd_net_of
  fd_is_right_stream : FuncData
  F_is_right_stream : FunD K "is_right_stream" "is_right_stream" (defArgs (top 21)) (defBody (top 21)) (defScope (top 21)) [] [] (He.fAd K ("is_right_stream", none)) fd_is_right_stream
  fd_is_stream : FuncData
  F_is_stream : FunD K "is_stream" "is_stream" (defArgs (top 22)) (defBody (top 22)) (defScope (top 22)) [] [] (He.fAd K ("is_stream", none)) fd_is_stream
  fd_law_is_within : FuncData
  F_law_is_within : FunD K "_law_is_within" "_law_is_within" (defArgs (top 34)) (defBody (top 34)) (defScope (top 34)) [] [] (He.fAd K ("_law_is_within", none)) fd_law_is_within
  fd_law_come : FuncData
  F_law_come : FunD K "_law_come" "_law_come" (defArgs (top 45)) (defBody (top 45)) (defScope (top 45)) [] [] (He.fAd K ("_law_come", none)) fd_law_come
  fd_law_is_stream : FuncData
  F_law_is_stream : FunD K "_law_is_stream" "_law_is_stream" (defArgs (top 46)) (defBody (top 46)) (defScope (top 46)) [] [] (He.fAd K ("_law_is_stream", none)) fd_law_is_stream
  fd_check_stream : FuncData
  F_check_stream : FunD K "check_stream" "check_stream" (defArgs (top 23)) (defBody (top 23)) (defScope (top 23)) [] [] (He.fAd K ("check_stream", none)) fd_check_stream
  fd_worth_of : FuncData
  F_worth_of : FunD K "worth_of" "worth_of" (defArgs (top 24)) (defBody (top 24)) (defScope (top 24)) [] [] (He.fAd K ("worth_of", none)) fd_worth_of
  fd_worth : FuncData
  F_worth : FunD K "worth" "worth" (defArgs (top 25)) (defBody (top 25)) (defScope (top 25)) [] [] (He.fAd K ("worth", none)) fd_worth
  fd_law_worth : FuncData
  F_law_worth : FunD K "_law_worth" "_law_worth" (defArgs (top 52)) (defBody (top 52)) (defScope (top 52)) [] [] (He.fAd K ("_law_worth", none)) fd_law_worth
  fd_check_house : FuncData
  F_check_house : FunD K "check_house" "check_house" (defArgs (top 17)) (defBody (top 17)) (defScope (top 17)) [] [] (He.fAd K ("check_house", none)) fd_check_house
  fd_check_tie : FuncData
  F_check_tie : FunD K "check_tie" "check_tie" (defArgs (top 18)) (defBody (top 18)) (defScope (top 18)) [] [] (He.fAd K ("check_tie", none)) fd_check_tie
  fd_units_between : FuncData
  F_units_between : FunD K "units_between" "units_between" (defArgs (top 26)) (defBody (top 26)) (defScope (top 26)) [] [] (He.fAd K ("units_between", none)) fd_units_between
  fd_room_of : FuncData
  F_room_of : FunD K "room_of" "room_of" (defArgs (top 27)) (defBody (top 27)) (defScope (top 27)) [] [] (He.fAd K ("room_of", none)) fd_room_of
  fd_room : FuncData
  F_room : FunD K "room" "room" (defArgs (top 28)) (defBody (top 28)) (defScope (top 28)) [] [] (He.fAd K ("room", none)) fd_room
  fd_law : FuncData
  F_law : FunD K "law" "law" (defArgs (top 57)) (defBody (top 57)) (defScope (top 57)) [] [] (He.fAd K ("law", none)) fd_law
  fd_x_BadWeb : FuncData
  F_x_BadWeb : FunD K "__init__" "BadWeb.__init__" (defArgs (mem 2 0)) (defBody (mem 2 0)) (defScope (mem 2 0)) [] [] (He.fAd K ("BadWeb", some "__init__")) fd_x_BadWeb
  g__law_hand : mg "_law_hand" = some (.ref (He.fAd K ("_law_hand", none)))
  g__law_take : mg "_law_take" = some (.ref (He.fAd K ("_law_take", none)))
  g__law_pick : mg "_law_pick" = some (.ref (He.fAd K ("_law_pick", none)))
  g__law_units : mg "_law_units" = some (.ref (He.fAd K ("_law_units", none)))
  g__law_web : mg "_law_web" = some (.ref (He.fAd K ("_law_web", none)))
  g_is_integer : mg "is_integer" = some (.ref (He.fAd K ("is_integer", none)))
  g_is_within : mg "is_within" = some (.ref (He.fAd K ("is_within", none)))
  g_is_below : mg "is_below" = some (.ref (He.fAd K ("is_below", none)))
  g_is_sized : mg "is_sized" = some (.ref (He.fAd K ("is_sized", none)))
  g_is_tie : mg "is_tie" = some (.ref (He.fAd K ("is_tie", none)))
  g_beside : mg "beside" = some (.ref (He.fAd K ("beside", none)))
  g__law_web_of : mg "_law_web_of" = some (.ref (He.fAd K ("_law_web_of", none)))
  g__law_is_integer : mg "_law_is_integer" = some (.ref (He.fAd K ("_law_is_integer", none)))
  g__law_same : mg "_law_same" = some (.ref (He.fAd K ("_law_same", none)))
  g__law_sizes : mg "_law_sizes" = some (.ref (He.fAd K ("_law_sizes", none)))
  g__law_near : mg "_law_near" = some (.ref (He.fAd K ("_law_near", none)))
  g__law_at : mg "_law_at" = some (.ref (He.fAd K ("_law_at", none)))
  g__law_lets : mg "_law_lets" = some (.ref (He.fAd K ("_law_lets", none)))
  g__law_flow : mg "_law_flow" = some (.ref (He.fAd K ("_law_flow", none)))
  g__law_room : mg "_law_room" = some (.ref (He.fAd K ("_law_room", none)))
  g__law_reach : mg "_law_reach" = some (.ref (He.fAd K ("_law_reach", none)))
  g__law_way : mg "_law_way" = some (.ref (He.fAd K ("_law_way", none)))
  g__law_sent : mg "_law_sent" = some (.ref (He.fAd K ("_law_sent", none)))
  g__law_least_room : mg "_law_least_room" = some (.ref (He.fAd K ("_law_least_room", none)))
  g__law_greatest : mg "_law_greatest" = some (.ref (He.fAd K ("_law_greatest", none)))
  g__law_ring : mg "_law_ring" = some (.ref (He.fAd K ("_law_ring", none)))
  g__law_some_stream : mg "_law_some_stream" = some (.ref (He.fAd K ("_law_some_stream", none)))
  g__law_odd : mg "_law_odd" = some (.ref (He.fAd K ("_law_odd", none)))
  g__law_bent : mg "_law_bent" = some (.ref (He.fAd K ("_law_bent", none)))
  g_net_of : mg "net_of" = some (.ref (He.fAd K ("net_of", none)))
  g_is_right_stream : mg "is_right_stream" = some (.ref (He.fAd K ("is_right_stream", none)))
  g_is_stream : mg "is_stream" = some (.ref (He.fAd K ("is_stream", none)))
  g__law_is_within : mg "_law_is_within" = some (.ref (He.fAd K ("_law_is_within", none)))
  g__law_come : mg "_law_come" = some (.ref (He.fAd K ("_law_come", none)))
  g__law_is_stream : mg "_law_is_stream" = some (.ref (He.fAd K ("_law_is_stream", none)))
  g_check_stream : mg "check_stream" = some (.ref (He.fAd K ("check_stream", none)))
  g_worth_of : mg "worth_of" = some (.ref (He.fAd K ("worth_of", none)))
  g_worth : mg "worth" = some (.ref (He.fAd K ("worth", none)))
  g__law_worth : mg "_law_worth" = some (.ref (He.fAd K ("_law_worth", none)))
  g_check_house : mg "check_house" = some (.ref (He.fAd K ("check_house", none)))
  g_check_tie : mg "check_tie" = some (.ref (He.fAd K ("check_tie", none)))
  g_units_between : mg "units_between" = some (.ref (He.fAd K ("units_between", none)))
  g_room_of : mg "room_of" = some (.ref (He.fAd K ("room_of", none)))
  g_room : mg "room" = some (.ref (He.fAd K ("room", none)))
  g_law : mg "law" = some (.ref (He.fAd K ("law", none)))
  g_BadWeb : mg "BadWeb" = some (.ref (He.ga K "BadWeb"))
  g_NoHouse : mg "NoHouse" = some (.ref (He.ga K "NoHouse"))
  g_NoStream : mg "NoStream" = some (.ref (He.ga K "NoStream"))
  g_NoTie : mg "NoTie" = some (.ref (He.ga K "NoTie"))
  g_Web : mg "Web" = some (.ref (He.ga K "Web"))
  n_all : mg "all" = none
  n_bool : mg "bool" = none
  n_enumerate : mg "enumerate" = none
  n_int : mg "int" = none
  n_isinstance : mg "isinstance" = none
  n_len : mg "len" = none
  n_list : mg "list" = none
  n_max : mg "max" = none
  n_min : mg "min" = none
  n_range : mg "range" = none
  n_set : mg "set" = none
  n_sorted : mg "sorted" = none
  n_str : mg "str" = none
  n_sum : mg "sum" = none
  n_tuple : mg "tuple" = none
  n_zip : mg "zip" = none
  t_MOST_HOUSES : Tok
  c_MOST_HOUSES : mg "MOST_HOUSES" = some (.int 10 t_MOST_HOUSES)
  t_MOST_LETS : Tok
  c_MOST_LETS : mg "MOST_LETS" = some (.int 1000000 t_MOST_LETS)
  mk_Web : Mk K (He.ga K "Web") (He.fAd K ("Web", some "__init__"))
  x_NoHouse : PySem.W.excIn K (He.ga K "NoHouse") He.veBase "ValueError.__new__" = true ∧ PySem.W.keepIn K (.ref (He.ga K "NoHouse")) = true ∧ PySem.W.subIn K (.ref (He.ga K "NoHouse")) (.type "BaseException") = some true ∧ PySem.W.typeIn K (.ref (He.ga K "NoHouse")) = some (.type "type")
  x_NoStream : PySem.W.excIn K (He.ga K "NoStream") He.veBase "ValueError.__new__" = true ∧ PySem.W.keepIn K (.ref (He.ga K "NoStream")) = true ∧ PySem.W.subIn K (.ref (He.ga K "NoStream")) (.type "BaseException") = some true ∧ PySem.W.typeIn K (.ref (He.ga K "NoStream")) = some (.type "type")
  x_NoTie : PySem.W.excIn K (He.ga K "NoTie") He.veBase "ValueError.__new__" = true ∧ PySem.W.keepIn K (.ref (He.ga K "NoTie")) = true ∧ PySem.W.subIn K (.ref (He.ga K "NoTie")) (.type "BaseException") = some true ∧ PySem.W.typeIn K (.ref (He.ga K "NoTie")) = some (.type "type")
  y_BadWeb : OexC K (He.ga K "BadWeb")
  yi_BadWeb : PySem.W.findIn K (.ref (He.ga K "BadWeb")) "__init__" = some (some (.ref (He.fAd K ("BadWeb", some "__init__")))) ∧ PySem.W.typeIn K (.ref (He.fAd K ("BadWeb", some "__init__"))) = some (.type "function")
  yn_BadWeb : PySem.W.findIn K (.ref (He.ga K "BadWeb")) "part" = some none
  fld : FldOk K mg tabF0
  err : ErrOk K mg tabE
  i_Web : IsiOk K mg (.ref (He.ga K "Web")) [] ["NoneType", "bool", "int", "str", "tuple", "list", "dict"] ["Web"] []
  i_int : IsiOk K mg (.type "int") ["int", "bool"] ["NoneType", "str", "tuple", "list", "dict"] [] ["Web"]
  i_bool : IsiOk K mg (.type "bool") ["bool"] ["NoneType", "int", "str", "tuple", "list", "dict"] [] ["Web"]
  i_tuple : IsiOk K mg (.type "tuple") ["tuple"] ["NoneType", "bool", "int", "str", "list", "dict"] [] ["Web"]
  i_str : IsiOk K mg (.type "str") ["str"] ["NoneType", "bool", "int", "tuple", "list", "dict"] [] ["Web"]
  i_list : IsiOk K mg (.type "list") ["list"] ["NoneType", "bool", "int", "str", "tuple", "dict"] [] ["Web"]
theorem sc_x_BadWeb : FnScope ["self", "part"] ["self", "part"] (defScope (mem 2 0)) := ⟨rfl, rfl, rfl, by decide +kernel, rfl, by decide +kernel, by decide +kernel⟩
theorem b_x_BadWeb {K : PySem.W.Frag} {mg : Str → Option Value} (T : Tx K mg) : Binds K T.fd_x_BadWeb ["self", "part"] [] := T.F_x_BadWeb.bindsN fun _ _ _ _ _ _ us hl => match us, hl with | [_, _], _ => rfl
theorem ok_x_BadWeb {P : Program} {w : World} {K : PySem.W.Frag} {mg : Str → Option Value} {base : Heap} (T : Tx K mg) : FnOk P w K mg base (L2.CX P w) 1 (He.fAd K ("BadWeb", some "__init__")) T.fd_x_BadWeb ["self", "part"] (spXI (He.ga K "BadWeb") "part") := ok_xinit (st := (mem 2 0)) (He5.fun_of T.F_x_BadWeb) sc_x_BadWeb rfl T.y_BadWeb T.yn_BadWeb rfl rfl
theorem sc_Web_eq : FnScope ["self", "other"] ["self", "other"] (defScope (mem 15 1)) := ⟨rfl, rfl, rfl, by decide +kernel, rfl, by decide +kernel, by decide +kernel⟩
theorem b_Web_eq {K : PySem.W.Frag} {mg : Str → Option Value} (T : Tx K mg) : Binds K T.fd_Web_eq ["self", "other"] [] := T.F_Web_eq.bindsN fun _ _ _ _ _ _ us hl => match us, hl with | [_, _], _ => rfl
def B_Web_eq : MS :=
    mSeq (mIf (mNot (tPu (pIsi (isi_Web) (pVar 1)))) (mRet (mP (pC (.bl false)))) (mNext))
    (mRet (mP (pOp2 (eqD false) (pTup (psCons (pFld tabF0 "many" (pVar 0)) (psCons (pFld tabF0 "ties" (pVar 0)) (psCons (pFld tabF0 "spring" (pVar 0)) (psCons (pFld tabF0 "mouth" (pVar 0)) (psNil)))))) (pTup (psCons (pFld tabF0 "many" (pVar 1)) (psCons (pFld tabF0 "ties" (pVar 1)) (psCons (pFld tabF0 "spring" (pVar 1)) (psCons (pFld tabF0 "mouth" (pVar 1)) (psNil)))))))))
def M_Web_eq : List D → Out := fnB 2 [] B_Web_eq
theorem ok_Web_eq {P : Program} {w : World} {K : PySem.W.Frag} {mg : Str → Option Value} {base : Heap} (T : Tx K mg) : FnOk P w K mg base (L2.CX P w) 1 (He.fAd K ("Web", some "__eq__")) T.fd_Web_eq ["self", "other"] (spM K mg 2 [] M_Web_eq) := by
  refine fn_mirD (b := B_Web_eq) (st := (mem 15 1)) (N := ["self", "other"]) (ps := ["self", "other"]) (m := []) (k := 0) T.F_Web_eq sc_Web_eq (by decide) (by decide) ?_
  intro cdv A outer s H vs E hr
  have tk := takes_of (E := E) (X := cxOf (L2.CX P w) P w K mg base ["self", "other"] "Web.__eq__" (defScope (mem 15 1)) (He.fAd K ("Web", some "__eq__")) cdv A outer s H E) rfl rfl rfl rfl
  have hp := passes_of (X := cxOf (L2.CX P w) P w K mg base ["self", "other"] "Web.__eq__" (defScope (mem 15 1)) (He.fAd K ("Web", some "__eq__")) cdv A outer s H E) rfl
  have hu1 : (cxOf (L2.CX P w) P w K mg base ["self", "other"] "Web.__eq__" (defScope (mem 15 1)) (He.fAd K ("Web", some "__eq__")) cdv A outer s H E).A.units + 1 < cLine := Nat.lt_of_le_of_lt (Nat.add_le_add_left (by decide) _) hr.units
  exact gss_cons (by exact gs_if (by exact gt_not (by exact gt_u (by exact gu_isi T.i_Web (.own _) (by exact rfl) T.n_isinstance (by exact gv_u (by exact gu_var (by exact pv 1))) (pe_glob (by exact rfl) T.g_Web rfl)))) (by exact gss_one (by exact gs_ret (by exact ge_p (by exact gu_bl)))) (by exact gss_nil)) (by exact gss_one (by exact gs_ret (by exact ge_p (by exact gu_cmp (op_eqD hr.units) os_eqD (by exact gv_u (by exact gu_tup (by exact gus_cons (by exact gu_fld T.fld (by exact gv_u (by exact gu_var (by exact pv 0)))) (by exact gus_cons (by exact gu_fld T.fld (by exact gv_u (by exact gu_var (by exact pv 0)))) (by exact gus_cons (by exact gu_fld T.fld (by exact gv_u (by exact gu_var (by exact pv 0)))) (by exact gus_cons (by exact gu_fld T.fld (by exact gv_u (by exact gu_var (by exact pv 0)))) (by exact gps_nil))))))) (by exact gv_u (by exact gu_tup (by exact gus_cons (by exact gu_fld T.fld (by exact gv_u (by exact gu_var (by exact pv 1)))) (by exact gus_cons (by exact gu_fld T.fld (by exact gv_u (by exact gu_var (by exact pv 1)))) (by exact gus_cons (by exact gu_fld T.fld (by exact gv_u (by exact gu_var (by exact pv 1)))) (by exact gus_cons (by exact gu_fld T.fld (by exact gv_u (by exact gu_var (by exact pv 1)))) (by exact gps_nil))))))) (by exact rfl)))))
theorem sc_law_hand : FnScope ["_law_script"] ["_law_script"] (defScope (top 30)) := ⟨rfl, rfl, rfl, by decide +kernel, rfl, by decide +kernel, by decide +kernel⟩
theorem b_law_hand {K : PySem.W.Frag} {mg : Str → Option Value} (T : Tx K mg) : Binds K T.fd_law_hand ["_law_script"] [] := T.F_law_hand.bindsN fun _ _ _ _ _ _ us hl => match us, hl with | [_], _ => rfl
def B_law_hand : MS :=
    mRetF (mLst (aCons (eO (mP (pFn fList (psCons (pVar 0) (psNil))))) (aCons (eO (mP (pC (.int 0)))) (aCons (eO (mP (pC (.int 0)))) (aCons (eO (mP (pC (.int 1)))) (aCons (eO (mP (pC (.int 0)))) (aNil)))))))
def M_law_hand : List D → Out := fnB 1 [] B_law_hand
theorem ok_law_hand {P : Program} {w : World} {K : PySem.W.Frag} {mg : Str → Option Value} {base : Heap} (T : Tx K mg) : FnOk P w K mg base (L2.CX P w) 1 (He.fAd K ("_law_hand", none)) T.fd_law_hand ["_law_script"] (spM K mg 1 [] M_law_hand) := by
  refine fn_mirD (b := B_law_hand) (st := (top 30)) (N := ["_law_script"]) (ps := ["_law_script"]) (m := []) (k := 0) T.F_law_hand sc_law_hand (by decide) (by decide) ?_
  intro cdv A outer s H vs E hr
  have tk := takes_of (E := E) (X := cxOf (L2.CX P w) P w K mg base ["_law_script"] "_law_hand" (defScope (top 30)) (He.fAd K ("_law_hand", none)) cdv A outer s H E) rfl rfl rfl rfl
  have hp := passes_of (X := cxOf (L2.CX P w) P w K mg base ["_law_script"] "_law_hand" (defScope (top 30)) (He.fAd K ("_law_hand", none)) cdv A outer s H E) rfl
  have hu1 : (cxOf (L2.CX P w) P w K mg base ["_law_script"] "_law_hand" (defScope (top 30)) (He.fAd K ("_law_hand", none)) cdv A outer s H E).A.units + 1 < cLine := Nat.lt_of_le_of_lt (Nat.add_le_add_left (by decide) _) hr.units
  exact gss_one (by exact gs_retF (by exact gf_lst (by exact ga_cons (by exact ge_o (by exact ge_p (by exact gu_callTy call_list_of ff_list.toS (by exact rfl) T.n_list Boot.«list» (by exact gvs_cons (by exact gv_u (by exact gu_var (by exact pv 0))) (by exact gps_nil))))) (by exact ga_cons (by exact ge_o (by exact ge_p (by exact gu_int))) (by exact ga_cons (by exact ge_o (by exact ge_p (by exact gu_int))) (by exact ga_cons (by exact ge_o (by exact ge_p (by exact gu_int))) (by exact ga_cons (by exact ge_o (by exact ge_p (by exact gu_int))) (by exact ga_nil))))))))
theorem sc_law_take : FnScope ["_law_hand_here", "_law_many", "_law_cell", "_law_found", "_law_number"] ["_law_hand_here", "_law_many"] (defScope (top 31)) := ⟨rfl, rfl, rfl, by decide +kernel, rfl, by decide +kernel, by decide +kernel⟩
theorem b_law_take {K : PySem.W.Frag} {mg : Str → Option Value} (T : Tx K mg) : Binds K T.fd_law_take ["_law_hand_here", "_law_many"] [] := T.F_law_take.bindsN fun _ _ _ _ _ _ us hl => match us, hl with | [_, _], _ => rfl
def B_law_take : MS :=
    mSeq (mSetI tabF0 0 [] (pFlat (pC (.int 4))) (mP (pOp2 fAdd (pOp2 fAt (pVar' 0) (pC (.int 4))) (pC (.int 1)))))
    (mSeq (mIf (mAnd (tPu (pOp2 (eqD false) (pOp2 fAt (pVar' 0) (pC (.int 2))) (pC (.int 0)))) (tPu (pOp2 fLt (pOp2 fAt (pVar' 0) (pC (.int 1))) (pFn fLen (psCons (pOp2 fAt (pVar' 0) (pC (.int 0))) (psNil)))))) (mSeq (mAsg 2 (mP (pFn fInt (psCons (pOp2 fAt (pOp2 fAt (pVar' 0) (pC (.int 0))) (pOp2 fAt (pVar' 0) (pC (.int 1)))) (psNil)))))
    (mSeq (mSetI tabF0 0 [] (pFlat (pC (.int 1))) (mP (pOp2 fAdd (pOp2 fAt (pVar' 0) (pC (.int 1))) (pC (.int 1)))))
    (mIf (tPu (pOp2 fGe (pVar 2) (pOp2 fPow (pC (.int 10)) (pC (.int 18))))) (mSetI tabF0 0 [] (pFlat (pC (.int 2))) (mP (pVar 2))) (mSetI tabF0 0 [] (pFlat (pC (.int 3))) (mP (pOp2 fMod (pFn fInt (psCons (pOp2 fAdd (pOp2 fAdd (pOp2 fMulA (pOp2 fAt (pVar' 0) (pC (.int 3))) (pC (.int 48271))) (pOp2 fMod (pFn fInt (psCons (pVar 2) (psNil))) (pC (.int 2147483647)))) (pC (.int 1))) (psNil))) (pC (.int 2147483647)))))))) (mNext))
    (mSeq (mIf (tPu (pOp2 fGt (pOp2 fAt (pVar' 0) (pC (.int 2))) (pC (.int 0)))) (mSeq (mAsg 3 (mP (pOp2 fMod (pFn fInt (psCons (pOp2 fAt (pVar' 0) (pC (.int 2))) (psNil))) (pVar 1))))
    (mSeq (mSetI tabF0 0 [] (pFlat (pC (.int 2))) (mP (pOp2 fDiv (pFn fInt (psCons (pOp2 fAt (pVar' 0) (pC (.int 2))) (psNil))) (pVar 1))))
    (mRet (mP (pVar 3))))) (mNext))
    (mSeq (mSetI tabF0 0 [] (pFlat (pC (.int 3))) (mP (pOp2 fMod (pFn fInt (psCons (pOp2 fAdd (pOp2 fMulA (pOp2 fAt (pVar' 0) (pC (.int 3))) (pC (.int 69621))) (pOp2 fMulA (pC (.int 7919)) (pOp2 fAt (pVar' 0) (pC (.int 4))))) (psNil))) (pC (.int 2147483647)))))
    (mSeq (mAsg 4 (mP (pOp2 fMod (pFn fInt (psCons (pOp2 fMulA (pOp2 fAt (pVar' 0) (pC (.int 3))) (pOp2 fAdd (pOp2 fDiv (pOp2 fAt (pVar' 0) (pC (.int 3))) (pC (.int 1009))) (pC (.int 69621)))) (psNil))) (pC (.int 2147483647)))))
    (mSeq (mAsg 4 (mP (pOp2 fMod (pFn fInt (psCons (pOp2 fMulA (pVar 4) (pOp2 fAdd (pOp2 fDiv (pVar 4) (pC (.int 2003))) (pC (.int 40692)))) (psNil))) (pC (.int 2147483399)))))
    (mRet (mP (pOp2 fMod (pFn fInt (psCons (pOp2 fDiv (pVar 4) (pC (.int 16))) (psNil))) (pVar 1)))))))))
def M_law_take : List D → Out := fnB 5 [true] B_law_take
theorem ok_law_take {P : Program} {w : World} {K : PySem.W.Frag} {mg : Str → Option Value} {base : Heap} (T : Tx K mg) : FnOk P w K mg base (L2.CX P w) 2 (He.fAd K ("_law_take", none)) T.fd_law_take ["_law_hand_here", "_law_many"] (spM K mg 2 [true] M_law_take) := by
  refine fn_mirD (b := B_law_take) (st := (top 31)) (N := ["_law_hand_here", "_law_many", "_law_cell", "_law_found", "_law_number"]) (ps := ["_law_hand_here", "_law_many"]) (m := [true]) (k := 1) T.F_law_take sc_law_take (by decide) (by decide) ?_
  intro cdv A outer s H vs E hr
  have tk := takes_of (E := E) (X := cxOf (L2.CX P w) P w K mg base ["_law_hand_here", "_law_many", "_law_cell", "_law_found", "_law_number"] "_law_take" (defScope (top 31)) (He.fAd K ("_law_take", none)) cdv A outer s H E) rfl rfl rfl rfl
  have hp := passes_of (X := cxOf (L2.CX P w) P w K mg base ["_law_hand_here", "_law_many", "_law_cell", "_law_found", "_law_number"] "_law_take" (defScope (top 31)) (He.fAd K ("_law_take", none)) cdv A outer s H E) rfl
  have hu1 : (cxOf (L2.CX P w) P w K mg base ["_law_hand_here", "_law_many", "_law_cell", "_law_found", "_law_number"] "_law_take" (defScope (top 31)) (He.fAd K ("_law_take", none)) cdv A outer s H E).A.units + 1 < cLine := Nat.lt_of_le_of_lt (Nat.add_le_add_left (by decide) _) hr.units
  exact gss_cons (by exact gs_setI hu1 (by exact gp_var (by exact pv 0)) (by exact gk_u (by exact gu_int)) (by exact ge_p (by exact gu_bin or_add os_add (by exact gv_u (by exact gu_ix (ix_at hu1) os_at (by exact gv_var (by exact pv 0)) (by exact gv_u (by exact gu_int)))) (by exact gv_u (by exact gu_int))))) (by exact gss_cons (by exact gs_if (by exact PW.pt (by exact gw_and (by exact gt_cmpU (op_eqD hr.units) os_eqD (by exact gv_u (by exact gu_ix (ix_at hu1) os_at (by exact gv_var (by exact pv 0)) (by exact gv_u (by exact gu_int)))) (by exact gv_u (by exact gu_int)) (by exact rfl)) (by exact gw_and1 (by exact gt_cmpU op_lt os_lt (by exact gv_u (by exact gu_ix (ix_at hu1) os_at (by exact gv_var (by exact pv 0)) (by exact gv_u (by exact gu_int)))) (by exact gv_u (by exact gu_callB cr_len fs_len (by exact rfl) T.n_len Boot.«len» (by exact gvs_cons (by exact gv_u (by exact gu_ix (ix_at hu1) os_at (by exact gv_var (by exact pv 0)) (by exact gv_u (by exact gu_int)))) (by exact gps_nil)))) (by exact rfl))))) (by exact gss_cons (by exact gs_set (by exact off_jOf rfl) (by exact sc_law_take.nd) (by exact rfl) (by first | exact Or.inl rfl | exact Or.inr rfl) (by exact ge_p (by exact gu_callTy call_int1 fs_int (by exact rfl) T.n_int Boot.«int» (by exact gvs_cons (by exact gv_u (by exact gu_ix (ix_at hu1) os_at (by exact gv_u (by exact gu_ix (ix_at hu1) os_at (by exact gv_var (by exact pv 0)) (by exact gv_u (by exact gu_int)))) (by exact gv_u (by exact gu_ix (ix_at hu1) os_at (by exact gv_var (by exact pv 0)) (by exact gv_u (by exact gu_int)))))) (by exact gps_nil))))) (by exact gss_cons (by exact gs_setI hu1 (by exact gp_var (by exact pv 0)) (by exact gk_u (by exact gu_int)) (by exact ge_p (by exact gu_bin or_add os_add (by exact gv_u (by exact gu_ix (ix_at hu1) os_at (by exact gv_var (by exact pv 0)) (by exact gv_u (by exact gu_int)))) (by exact gv_u (by exact gu_int))))) (by exact gss_one (by exact gs_if (by exact gt_cmpU op_ge os_ge (by exact gv_u (by exact gu_var (by exact pv 2))) (by exact gv_u (by exact gu_bin op_pow os_pow (by exact gv_u (by exact gu_int)) (by exact gv_u (by exact gu_int)))) (by exact rfl)) (by exact gss_one (by exact gs_setI hu1 (by exact gp_var (by exact pv 0)) (by exact gk_u (by exact gu_int)) (by exact ge_p (by exact gu_var (by exact pv 2))))) (by exact gss_one (by exact gs_setI hu1 (by exact gp_var (by exact pv 0)) (by exact gk_u (by exact gu_int)) (by exact ge_p (by exact gu_bin op_modN os_mod (by exact gv_u (by exact gu_callTy call_int1 fs_int (by exact rfl) T.n_int Boot.«int» (by exact gvs_cons (by exact gv_u (by exact gu_bin or_add os_add (by exact gv_u (by exact gu_bin or_add os_add (by exact gv_u (by exact gu_bin or_mulA os_mulA (by exact gv_u (by exact gu_ix (ix_at hu1) os_at (by exact gv_var (by exact pv 0)) (by exact gv_u (by exact gu_int)))) (by exact gv_u (by exact gu_int)))) (by exact gv_u (by exact gu_bin op_modN os_mod (by exact gv_u (by exact gu_callTy call_int1 fs_int (by exact rfl) T.n_int Boot.«int» (by exact gvs_cons (by exact gv_u (by exact gu_var (by exact pv 2))) (by exact gps_nil)))) (by exact gv_u (by exact gu_int)))))) (by exact gv_u (by exact gu_int)))) (by exact gps_nil)))) (by exact gv_u (by exact gu_int)))))))))) (by exact gss_nil)) (by exact gss_cons (by exact gs_if (by exact gt_cmpU op_gt os_gt (by exact gv_u (by exact gu_ix (ix_at hu1) os_at (by exact gv_var (by exact pv 0)) (by exact gv_u (by exact gu_int)))) (by exact gv_u (by exact gu_int)) (by exact rfl)) (by exact gss_cons (by exact gs_set (by exact off_jOf rfl) (by exact sc_law_take.nd) (by exact rfl) (by first | exact Or.inl rfl | exact Or.inr rfl) (by exact ge_p (by exact gu_bin op_modN os_mod (by exact gv_u (by exact gu_callTy call_int1 fs_int (by exact rfl) T.n_int Boot.«int» (by exact gvs_cons (by exact gv_u (by exact gu_ix (ix_at hu1) os_at (by exact gv_var (by exact pv 0)) (by exact gv_u (by exact gu_int)))) (by exact gps_nil)))) (by exact gv_u (by exact gu_var (by exact pv 1)))))) (by exact gss_cons (by exact gs_setI hu1 (by exact gp_var (by exact pv 0)) (by exact gk_u (by exact gu_int)) (by exact ge_p (by exact gu_bin op_fdivN os_div (by exact gv_u (by exact gu_callTy call_int1 fs_int (by exact rfl) T.n_int Boot.«int» (by exact gvs_cons (by exact gv_u (by exact gu_ix (ix_at hu1) os_at (by exact gv_var (by exact pv 0)) (by exact gv_u (by exact gu_int)))) (by exact gps_nil)))) (by exact gv_u (by exact gu_var (by exact pv 1)))))) (by exact gss_one (by exact gs_ret (by exact ge_p (by exact gu_var (by exact pv 3))))))) (by exact gss_nil)) (by exact gss_cons (by exact gs_setI hu1 (by exact gp_var (by exact pv 0)) (by exact gk_u (by exact gu_int)) (by exact ge_p (by exact gu_bin op_modN os_mod (by exact gv_u (by exact gu_callTy call_int1 fs_int (by exact rfl) T.n_int Boot.«int» (by exact gvs_cons (by exact gv_u (by exact gu_bin or_add os_add (by exact gv_u (by exact gu_bin or_mulA os_mulA (by exact gv_u (by exact gu_ix (ix_at hu1) os_at (by exact gv_var (by exact pv 0)) (by exact gv_u (by exact gu_int)))) (by exact gv_u (by exact gu_int)))) (by exact gv_u (by exact gu_bin or_mulA os_mulA (by exact gv_u (by exact gu_int)) (by exact gv_u (by exact gu_ix (ix_at hu1) os_at (by exact gv_var (by exact pv 0)) (by exact gv_u (by exact gu_int)))))))) (by exact gps_nil)))) (by exact gv_u (by exact gu_int))))) (by exact gss_cons (by exact gs_set (by exact off_jOf rfl) (by exact sc_law_take.nd) (by exact rfl) (by first | exact Or.inl rfl | exact Or.inr rfl) (by exact ge_p (by exact gu_bin op_modN os_mod (by exact gv_u (by exact gu_callTy call_int1 fs_int (by exact rfl) T.n_int Boot.«int» (by exact gvs_cons (by exact gv_u (by exact gu_bin or_mulA os_mulA (by exact gv_u (by exact gu_ix (ix_at hu1) os_at (by exact gv_var (by exact pv 0)) (by exact gv_u (by exact gu_int)))) (by exact gv_u (by exact gu_bin or_add os_add (by exact gv_u (by exact gu_bin op_fdivN os_div (by exact gv_u (by exact gu_ix (ix_at hu1) os_at (by exact gv_var (by exact pv 0)) (by exact gv_u (by exact gu_int)))) (by exact gv_u (by exact gu_int)))) (by exact gv_u (by exact gu_int)))))) (by exact gps_nil)))) (by exact gv_u (by exact gu_int))))) (by exact gss_cons (by exact gs_set (by exact off_jOf rfl) (by exact sc_law_take.nd) (by exact rfl) (by first | exact Or.inl rfl | exact Or.inr rfl) (by exact ge_p (by exact gu_bin op_modN os_mod (by exact gv_u (by exact gu_callTy call_int1 fs_int (by exact rfl) T.n_int Boot.«int» (by exact gvs_cons (by exact gv_u (by exact gu_bin or_mulA os_mulA (by exact gv_u (by exact gu_var (by exact pv 4))) (by exact gv_u (by exact gu_bin or_add os_add (by exact gv_u (by exact gu_bin op_fdivN os_div (by exact gv_u (by exact gu_var (by exact pv 4))) (by exact gv_u (by exact gu_int)))) (by exact gv_u (by exact gu_int)))))) (by exact gps_nil)))) (by exact gv_u (by exact gu_int))))) (by exact gss_one (by exact gs_ret (by exact ge_p (by exact gu_bin op_modN os_mod (by exact gv_u (by exact gu_callTy call_int1 fs_int (by exact rfl) T.n_int Boot.«int» (by exact gvs_cons (by exact gv_u (by exact gu_bin op_fdivN os_div (by exact gv_u (by exact gu_var (by exact pv 4))) (by exact gv_u (by exact gu_int)))) (by exact gps_nil)))) (by exact gv_u (by exact gu_var (by exact pv 1))))))))))))
theorem sc_law_pick : FnScope ["_law_hand_here", "_law_things"] ["_law_hand_here", "_law_things"] (defScope (top 32)) := ⟨rfl, rfl, rfl, by decide +kernel, rfl, by decide +kernel, by decide +kernel⟩
theorem b_law_pick {K : PySem.W.Frag} {mg : Str → Option Value} (T : Tx K mg) : Binds K T.fd_law_pick ["_law_hand_here", "_law_things"] [] := T.F_law_pick.bindsN fun _ _ _ _ _ _ us hl => match us, hl with | [_, _], _ => rfl
def B_law_pick : MS :=
    mRet (mOp2 fAt (eO (mP (pVar 1))) (eO (mCall 2 [true] M_law_take (aCons (oOwn 0) (aCons (eO (mP (pFn fLen (psCons (pVar 1) (psNil))))) (aNil))))))
def M_law_pick : List D → Out := fnB 2 [true] B_law_pick
theorem ok_law_pick {P : Program} {w : World} {K : PySem.W.Frag} {mg : Str → Option Value} {base : Heap} (T : Tx K mg) : FnOk P w K mg base (L2.CX P w) 3 (He.fAd K ("_law_pick", none)) T.fd_law_pick ["_law_hand_here", "_law_things"] (spM K mg 2 [true] M_law_pick) := by
  refine fn_mirD (b := B_law_pick) (st := (top 32)) (N := ["_law_hand_here", "_law_things"]) (ps := ["_law_hand_here", "_law_things"]) (m := [true]) (k := 2) T.F_law_pick sc_law_pick (by decide) (by decide) ?_
  intro cdv A outer s H vs E hr
  have tk := takes_of (E := E) (X := cxOf (L2.CX P w) P w K mg base ["_law_hand_here", "_law_things"] "_law_pick" (defScope (top 32)) (He.fAd K ("_law_pick", none)) cdv A outer s H E) rfl rfl rfl rfl
  have hp := passes_of (X := cxOf (L2.CX P w) P w K mg base ["_law_hand_here", "_law_things"] "_law_pick" (defScope (top 32)) (He.fAd K ("_law_pick", none)) cdv A outer s H E) rfl
  have hu1 : (cxOf (L2.CX P w) P w K mg base ["_law_hand_here", "_law_things"] "_law_pick" (defScope (top 32)) (He.fAd K ("_law_pick", none)) cdv A outer s H E).A.units + 1 < cLine := Nat.lt_of_le_of_lt (Nat.add_le_add_left (by decide) _) hr.units
  exact gss_one (by exact gs_ret (by exact ge_ix (ix_at hu1) os_at (by exact ge_o (by exact ge_p (by exact gu_var (by exact pv 1)))) (by exact ge_o (by exact ge_call tk (ok_law_take T) (hr.mono (by decide)) (by exact rfl) T.g__law_take T.F_law_take.kp (b_law_take T) (by exact ga_cons (by exact go_own (by exact pv 0)) (by exact ga_cons (by exact ge_o (by exact ge_p (by exact gu_callB cr_len fs_len (by exact rfl) T.n_len Boot.«len» (by exact gvs_cons (by exact gv_u (by exact gu_var (by exact pv 1))) (by exact gps_nil))))) (by exact ga_nil))))) (by intro _ _; rfl)))
theorem sc_law_units : FnScope ["_law_hand_here", "_law_span"] ["_law_hand_here", "_law_span"] (defScope (top 37)) := ⟨rfl, rfl, rfl, by decide +kernel, rfl, by decide +kernel, by decide +kernel⟩
theorem b_law_units {K : PySem.W.Frag} {mg : Str → Option Value} (T : Tx K mg) : Binds K T.fd_law_units ["_law_hand_here", "_law_span"] [] := T.F_law_units.bindsN fun _ _ _ _ _ _ us hl => match us, hl with | [_, _], _ => rfl
def B_law_units : MS :=
    mRet (mCall 2 [true] M_law_pick (aCons (oOwn 0) (aCons (eO (mLst (aCons (eO (mP (pC (.int 0)))) (aCons (eO (mCall 2 [true] M_law_take (aCons (oOwn 0) (aCons (eO (mP (pOp2 fAdd (pVar 1) (pC (.int 1))))) (aNil))))) (aCons (eO (mCall 2 [true] M_law_take (aCons (oOwn 0) (aCons (eO (mP (pOp2 fAdd (pVar 1) (pC (.int 1))))) (aNil))))) (aCons (eO (mP (pVar 1))) (aNil))))))) (aNil))))
def M_law_units : List D → Out := fnB 2 [true] B_law_units
theorem ok_law_units {P : Program} {w : World} {K : PySem.W.Frag} {mg : Str → Option Value} {base : Heap} (T : Tx K mg) : FnOk P w K mg base (L2.CX P w) 4 (He.fAd K ("_law_units", none)) T.fd_law_units ["_law_hand_here", "_law_span"] (spM K mg 2 [true] M_law_units) := by
  refine fn_mirD (b := B_law_units) (st := (top 37)) (N := ["_law_hand_here", "_law_span"]) (ps := ["_law_hand_here", "_law_span"]) (m := [true]) (k := 3) T.F_law_units sc_law_units (by decide) (by decide) ?_
  intro cdv A outer s H vs E hr
  have tk := takes_of (E := E) (X := cxOf (L2.CX P w) P w K mg base ["_law_hand_here", "_law_span"] "_law_units" (defScope (top 37)) (He.fAd K ("_law_units", none)) cdv A outer s H E) rfl rfl rfl rfl
  have hp := passes_of (X := cxOf (L2.CX P w) P w K mg base ["_law_hand_here", "_law_span"] "_law_units" (defScope (top 37)) (He.fAd K ("_law_units", none)) cdv A outer s H E) rfl
  have hu1 : (cxOf (L2.CX P w) P w K mg base ["_law_hand_here", "_law_span"] "_law_units" (defScope (top 37)) (He.fAd K ("_law_units", none)) cdv A outer s H E).A.units + 1 < cLine := Nat.lt_of_le_of_lt (Nat.add_le_add_left (by decide) _) hr.units
  exact gss_one (by exact gs_ret (by exact ge_call tk (ok_law_pick T) (hr.mono (by decide)) (by exact rfl) T.g__law_pick T.F_law_pick.kp (b_law_pick T) (by exact ga_cons (by exact go_own (by exact pv 0)) (by exact ga_cons (by exact ge_o (by exact ge_lst (by exact ga_cons (by exact ge_o (by exact ge_p (by exact gu_int))) (by exact ga_cons (by exact ge_o (by exact ge_call tk (ok_law_take T) (hr.mono (by decide)) (by exact rfl) T.g__law_take T.F_law_take.kp (b_law_take T) (by exact ga_cons (by exact go_own (by exact pv 0)) (by exact ga_cons (by exact ge_o (by exact ge_p (by exact gu_bin or_add os_add (by exact gv_u (by exact gu_var (by exact pv 1))) (by exact gv_u (by exact gu_int))))) (by exact ga_nil))))) (by exact ga_cons (by exact ge_o (by exact ge_call tk (ok_law_take T) (hr.mono (by decide)) (by exact rfl) T.g__law_take T.F_law_take.kp (b_law_take T) (by exact ga_cons (by exact go_own (by exact pv 0)) (by exact ga_cons (by exact ge_o (by exact ge_p (by exact gu_bin or_add os_add (by exact gv_u (by exact gu_var (by exact pv 1))) (by exact gv_u (by exact gu_int))))) (by exact ga_nil))))) (by exact ga_cons (by exact ge_o (by exact ge_p (by exact gu_var (by exact pv 1)))) (by exact ga_nil))))))) (by exact ga_nil)))))
theorem sc_law_web : FnScope ["_law_hand_here", "_law_size", "_law_pairs", "_law_shape", "_law_house", "_law_other", "_law_k", "_law_a", "_law_b", "_law_span", "_law_ties", "_law_pair", "_law_spring", "_law_mouth"] ["_law_hand_here", "_law_size"] (defScope (top 38)) := ⟨rfl, rfl, rfl, by decide +kernel, rfl, by decide +kernel, by decide +kernel⟩
theorem b_law_web {K : PySem.W.Frag} {mg : Str → Option Value} (T : Tx K mg) : Binds K T.fd_law_web ["_law_hand_here", "_law_size"] [] := T.F_law_web.bindsN fun _ _ _ _ _ _ us hl => match us, hl with | [_, _], _ => rfl
def B_law_web : MS :=
    mSeq (mAsgB 2 (mLst (aNil)))
    (mSeq (mAsg 3 (mCall 2 [true] M_law_take (aCons (oOwn 0) (aCons (eO (mP (pC (.int 4)))) (aNil)))))
    (mSeq (mFor (iRange2 (aCons (eO (mP (pC (.int 1)))) (aCons (eO (mP (pVar 1))) (aNil)))) (gSet 4) (mSeq (mAsg 5 (mCall 2 [true] M_law_take (aCons (oOwn 0) (aCons (eO (mP (pVar 4))) (aNil)))))
    (mSeq (mIf (tPu (pOp2 (eqD false) (pVar 3) (pC (.int 0)))) (mAsg 5 (mP (pOp2 fSub (pVar 4) (pC (.int 1))))) (mNext))
    (mIf (mOr (tPu (pOp2 (eqD true) (pVar 3) (pC (.int 1)))) (mTest (mOp2 fGt (eO (mCall 2 [true] M_law_take (aCons (oOwn 0) (aCons (eO (mP (pC (.int 3)))) (aNil))))) (eO (mP (pC (.int 0))))))) (mExpr (mMt fApp tabF0 2 [] (psCons (pTup (psCons (pVar 5) (psCons (pVar 4) (psNil)))) (psNil)))) (mNext)))))
    (mSeq (mFor (iRange1 (aCons (eO (mCall 2 [true] M_law_take (aCons (oOwn 0) (aCons (eO (mP (pOp2 fAdd (pOp2 fMulA (pVar 1) (pC (.int 2))) (pC (.int 1))))) (aNil))))) (aNil))) (gSet 6) (mSeq (mAsg 7 (mCall 2 [true] M_law_take (aCons (oOwn 0) (aCons (eO (mP (pVar 1))) (aNil)))))
    (mSeq (mAsg 8 (mCall 2 [true] M_law_take (aCons (oOwn 0) (aCons (eO (mP (pVar 1))) (aNil)))))
    (mIf (tPu (pOp2 fLt (pVar 7) (pVar 8))) (mExpr (mMt fApp tabF0 2 [] (psCons (pTup (psCons (pVar 7) (psCons (pVar 8) (psNil)))) (psNil)))) (mNext)))))
    (mSeq (mAsg 9 (mCall 2 [true] M_law_pick (aCons (oOwn 0) (aCons (eO (mP (pLst (psCons (pC (.int 1)) (psCons (pC (.int 3)) (psCons (pC (.int 9)) (psCons (pC (.int 999999)) (psNil)))))))) (aNil)))))
    (mSeq (mAsgB 10 (mLst (aNil)))
    (mSeq (mFor (iSeq (mP (pSortS (pVar' 2)))) (gSet 11) (mExpr (mMtX fApp 10 (aCons (eO (mOp2 fAdd (eO (mP (pVar 11))) (eO (mTup (aCons (eO (mCall 2 [true] M_law_units (aCons (oOwn 0) (aCons (eO (mP (pVar 9))) (aNil))))) (aCons (eO (mCall 2 [true] M_law_units (aCons (oOwn 0) (aCons (eO (mP (pVar 9))) (aNil))))) (aNil))))))) (aNil)))))
    (mSeq (mAsg 12 (mCall 2 [true] M_law_take (aCons (oOwn 0) (aCons (eO (mP (pVar 1))) (aNil)))))
    (mSeq (mAsg 13 (mOp2 fMod (eO (mFn fInt (aCons (eO (mOp2 fAdd (eO (mP (pOp2 fAdd (pVar 12) (pC (.int 1))))) (eO (mCall 2 [true] M_law_take (aCons (oOwn 0) (aCons (eO (mP (pOp2 fSub (pVar 1) (pC (.int 1))))) (aNil))))))) (aNil)))) (eO (mP (pVar 1)))))
    (mRet (mP (pTup (psCons (pVar 1) (psCons (pFn fTuple (psCons (pVar' 10) (psNil))) (psCons (pVar 12) (psCons (pVar 13) (psNil))))))))))))))))
def M_law_web : List D → Out := fnB 14 [true] B_law_web
theorem ok_law_web {P : Program} {w : World} {K : PySem.W.Frag} {mg : Str → Option Value} {base : Heap} (T : Tx K mg) : FnOk P w K mg base (L2.CX P w) 5 (He.fAd K ("_law_web", none)) T.fd_law_web ["_law_hand_here", "_law_size"] (spM K mg 2 [true] M_law_web) := by
  refine fn_mirD (b := B_law_web) (st := (top 38)) (N := ["_law_hand_here", "_law_size", "_law_pairs", "_law_shape", "_law_house", "_law_other", "_law_k", "_law_a", "_law_b", "_law_span", "_law_ties", "_law_pair", "_law_spring", "_law_mouth"]) (ps := ["_law_hand_here", "_law_size"]) (m := [true]) (k := 4) T.F_law_web sc_law_web (by decide) (by decide) ?_
  intro cdv A outer s H vs E hr
  have tk := takes_of (E := E) (X := cxOf (L2.CX P w) P w K mg base ["_law_hand_here", "_law_size", "_law_pairs", "_law_shape", "_law_house", "_law_other", "_law_k", "_law_a", "_law_b", "_law_span", "_law_ties", "_law_pair", "_law_spring", "_law_mouth"] "_law_web" (defScope (top 38)) (He.fAd K ("_law_web", none)) cdv A outer s H E) rfl rfl rfl rfl
  have hp := passes_of (X := cxOf (L2.CX P w) P w K mg base ["_law_hand_here", "_law_size", "_law_pairs", "_law_shape", "_law_house", "_law_other", "_law_k", "_law_a", "_law_b", "_law_span", "_law_ties", "_law_pair", "_law_spring", "_law_mouth"] "_law_web" (defScope (top 38)) (He.fAd K ("_law_web", none)) cdv A outer s H E) rfl
  have hu1 : (cxOf (L2.CX P w) P w K mg base ["_law_hand_here", "_law_size", "_law_pairs", "_law_shape", "_law_house", "_law_other", "_law_k", "_law_a", "_law_b", "_law_span", "_law_ties", "_law_pair", "_law_spring", "_law_mouth"] "_law_web" (defScope (top 38)) (He.fAd K ("_law_web", none)) cdv A outer s H E).A.units + 1 < cLine := Nat.lt_of_le_of_lt (Nat.add_le_add_left (by decide) _) hr.units
  exact gss_cons (by exact gs_setB (by exact off_jOf rfl) (by exact sc_law_web.nd) (by exact rfl) (by first | exact Or.inl rfl | exact Or.inr rfl) (by exact gf_lst (by exact ga_nil))) (by exact gss_cons (by exact gs_set (by exact off_jOf rfl) (by exact sc_law_web.nd) (by exact rfl) (by first | exact Or.inl rfl | exact Or.inr rfl) (by exact ge_call tk (ok_law_take T) (hr.mono (by decide)) (by exact rfl) T.g__law_take T.F_law_take.kp (b_law_take T) (by exact ga_cons (by exact go_own (by exact pv 0)) (by exact ga_cons (by exact ge_o (by exact ge_p (by exact gu_int))) (by exact ga_nil))))) (by exact gss_cons (by exact gs_for (by exact hp) (by exact rfl) (by exact gi_range2 (by exact rfl) T.n_range (by exact ga_cons (by exact ge_o (by exact ge_p (by exact gu_int))) (by exact ga_cons (by exact ge_o (by exact ge_p (by exact gu_var (by exact pv 1)))) (by exact ga_nil)))) (by exact gg_name (by exact off_jOf rfl) (by exact sc_law_web.nd) (by exact rfl) (by first | exact Or.inl rfl | exact Or.inr rfl)) (by exact gss_cons (by exact gs_set (by exact off_jOf rfl) (by exact sc_law_web.nd) (by exact rfl) (by first | exact Or.inl rfl | exact Or.inr rfl) (by exact ge_call tk (ok_law_take T) (hr.mono (by decide)) (by exact rfl) T.g__law_take T.F_law_take.kp (b_law_take T) (by exact ga_cons (by exact go_own (by exact pv 0)) (by exact ga_cons (by exact ge_o (by exact ge_p (by exact gu_var (by exact pv 4)))) (by exact ga_nil))))) (by exact gss_cons (by exact gs_if (by exact gt_cmpU (op_eqD hr.units) os_eqD (by exact gv_u (by exact gu_var (by exact pv 3))) (by exact gv_u (by exact gu_int)) (by exact rfl)) (by exact gss_one (by exact gs_set (by exact off_jOf rfl) (by exact sc_law_web.nd) (by exact rfl) (by first | exact Or.inl rfl | exact Or.inr rfl) (by exact ge_p (by exact gu_bin op_sub os_sub (by exact gv_u (by exact gu_var (by exact pv 4))) (by exact gv_u (by exact gu_int)))))) (by exact gss_nil)) (by exact gss_one (by exact gs_if (by exact PW.pt (by exact gw_or (by exact gt_cmpU (op_neD hr.units) os_neD (by exact gv_u (by exact gu_var (by exact pv 3))) (by exact gv_u (by exact gu_int)) (by exact rfl)) (by exact gw_or1 (by exact gt_cmp op_gt os_gt (by exact ge_o (by exact ge_call tk (ok_law_take T) (hr.mono (by decide)) (by exact rfl) T.g__law_take T.F_law_take.kp (b_law_take T) (by exact ga_cons (by exact go_own (by exact pv 0)) (by exact ga_cons (by exact ge_o (by exact ge_p (by exact gu_int))) (by exact ga_nil))))) (by exact ge_o (by exact ge_p (by exact gu_int))) (by exact rfl))))) (by exact gss_one (by exact gs_expr (by exact ge_app (by exact gp_var (by exact pv 2)) (by exact gus_cons (by exact gu_tup (by exact gus_cons (by exact gu_var (by exact pv 5)) (by exact gus_cons (by exact gu_var (by exact pv 4)) (by exact gps_nil)))) (by exact gps_nil))))) (by exact gss_nil)))))) (by exact gss_cons (by exact gs_for (by exact hp) (by exact rfl) (by exact gi_range1 (by exact rfl) T.n_range (by exact ga_cons (by exact ge_o (by exact ge_call tk (ok_law_take T) (hr.mono (by decide)) (by exact rfl) T.g__law_take T.F_law_take.kp (b_law_take T) (by exact ga_cons (by exact go_own (by exact pv 0)) (by exact ga_cons (by exact ge_o (by exact ge_p (by exact gu_bin or_add os_add (by exact gv_u (by exact gu_bin or_mulA os_mulA (by exact gv_u (by exact gu_var (by exact pv 1))) (by exact gv_u (by exact gu_int)))) (by exact gv_u (by exact gu_int))))) (by exact ga_nil))))) (by exact ga_nil))) (by exact gg_name (by exact off_jOf rfl) (by exact sc_law_web.nd) (by exact rfl) (by first | exact Or.inl rfl | exact Or.inr rfl)) (by exact gss_cons (by exact gs_set (by exact off_jOf rfl) (by exact sc_law_web.nd) (by exact rfl) (by first | exact Or.inl rfl | exact Or.inr rfl) (by exact ge_call tk (ok_law_take T) (hr.mono (by decide)) (by exact rfl) T.g__law_take T.F_law_take.kp (b_law_take T) (by exact ga_cons (by exact go_own (by exact pv 0)) (by exact ga_cons (by exact ge_o (by exact ge_p (by exact gu_var (by exact pv 1)))) (by exact ga_nil))))) (by exact gss_cons (by exact gs_set (by exact off_jOf rfl) (by exact sc_law_web.nd) (by exact rfl) (by first | exact Or.inl rfl | exact Or.inr rfl) (by exact ge_call tk (ok_law_take T) (hr.mono (by decide)) (by exact rfl) T.g__law_take T.F_law_take.kp (b_law_take T) (by exact ga_cons (by exact go_own (by exact pv 0)) (by exact ga_cons (by exact ge_o (by exact ge_p (by exact gu_var (by exact pv 1)))) (by exact ga_nil))))) (by exact gss_one (by exact gs_if (by exact gt_cmpU op_lt os_lt (by exact gv_u (by exact gu_var (by exact pv 7))) (by exact gv_u (by exact gu_var (by exact pv 8))) (by exact rfl)) (by exact gss_one (by exact gs_expr (by exact ge_app (by exact gp_var (by exact pv 2)) (by exact gus_cons (by exact gu_tup (by exact gus_cons (by exact gu_var (by exact pv 7)) (by exact gus_cons (by exact gu_var (by exact pv 8)) (by exact gps_nil)))) (by exact gps_nil))))) (by exact gss_nil)))))) (by exact gss_cons (by exact gs_set (by exact off_jOf rfl) (by exact sc_law_web.nd) (by exact rfl) (by first | exact Or.inl rfl | exact Or.inr rfl) (by exact ge_call tk (ok_law_pick T) (hr.mono (by decide)) (by exact rfl) T.g__law_pick T.F_law_pick.kp (b_law_pick T) (by exact ga_cons (by exact go_own (by exact pv 0)) (by exact ga_cons (by exact ge_o (by exact ge_p (by exact gu_lst (by exact gus_cons (by exact gu_int) (by exact gus_cons (by exact gu_int) (by exact gus_cons (by exact gu_int) (by exact gus_cons (by exact gu_int) (by exact gps_nil)))))))) (by exact ga_nil))))) (by exact gss_cons (by exact gs_setB (by exact off_jOf rfl) (by exact sc_law_web.nd) (by exact rfl) (by first | exact Or.inl rfl | exact Or.inr rfl) (by exact gf_lst (by exact ga_nil))) (by exact gss_cons (by exact gs_for (by exact hp) (by exact rfl) (by exact gi_seq (by exact ge_p (by exact gu_sortS rfl hr.units (by exact rfl) T.n_sorted (by exact rfl) T.n_set (by exact gv_var (by exact pv 2))))) (by exact gg_name (by exact off_jOf rfl) (by exact sc_law_web.nd) (by exact rfl) (by first | exact Or.inl rfl | exact Or.inr rfl)) (by exact gss_one (by exact gs_expr (by exact ge_appX (by exact pv 10) (by exact ga_cons (by exact ge_o (by exact ge_bin or_add os_add (by exact ge_o (by exact ge_p (by exact gu_var (by exact pv 11)))) (by exact ge_o (by exact ge_tup (by exact ga_cons (by exact ge_o (by exact ge_call tk (ok_law_units T) (hr.mono (by decide)) (by exact rfl) T.g__law_units T.F_law_units.kp (b_law_units T) (by exact ga_cons (by exact go_own (by exact pv 0)) (by exact ga_cons (by exact ge_o (by exact ge_p (by exact gu_var (by exact pv 9)))) (by exact ga_nil))))) (by exact ga_cons (by exact ge_o (by exact ge_call tk (ok_law_units T) (hr.mono (by decide)) (by exact rfl) T.g__law_units T.F_law_units.kp (b_law_units T) (by exact ga_cons (by exact go_own (by exact pv 0)) (by exact ga_cons (by exact ge_o (by exact ge_p (by exact gu_var (by exact pv 9)))) (by exact ga_nil))))) (by exact ga_nil))))))) (by exact ga_nil)))))) (by exact gss_cons (by exact gs_set (by exact off_jOf rfl) (by exact sc_law_web.nd) (by exact rfl) (by first | exact Or.inl rfl | exact Or.inr rfl) (by exact ge_call tk (ok_law_take T) (hr.mono (by decide)) (by exact rfl) T.g__law_take T.F_law_take.kp (b_law_take T) (by exact ga_cons (by exact go_own (by exact pv 0)) (by exact ga_cons (by exact ge_o (by exact ge_p (by exact gu_var (by exact pv 1)))) (by exact ga_nil))))) (by exact gss_cons (by exact gs_set (by exact off_jOf rfl) (by exact sc_law_web.nd) (by exact rfl) (by first | exact Or.inl rfl | exact Or.inr rfl) (by exact ge_bin op_modN os_mod (by exact ge_o (by exact ge_callTy call_int1 fs_int (by exact rfl) T.n_int Boot.«int» (by exact ga_cons (by exact ge_o (by exact ge_bin or_add os_add (by exact ge_o (by exact ge_p (by exact gu_bin or_add os_add (by exact gv_u (by exact gu_var (by exact pv 12))) (by exact gv_u (by exact gu_int))))) (by exact ge_o (by exact ge_call tk (ok_law_take T) (hr.mono (by decide)) (by exact rfl) T.g__law_take T.F_law_take.kp (b_law_take T) (by exact ga_cons (by exact go_own (by exact pv 0)) (by exact ga_cons (by exact ge_o (by exact ge_p (by exact gu_bin op_sub os_sub (by exact gv_u (by exact gu_var (by exact pv 1))) (by exact gv_u (by exact gu_int))))) (by exact ga_nil))))))) (by exact ga_nil)))) (by exact ge_o (by exact ge_p (by exact gu_var (by exact pv 1)))))) (by exact gss_one (by exact gs_ret (by exact ge_p (by exact gu_tup (by exact gus_cons (by exact gu_var (by exact pv 1)) (by exact gus_cons (by exact gu_callTy call_tuple_of fs_tuple (by exact rfl) T.n_tuple Boot.«tuple» (by exact gvs_cons (by exact gv_var (by exact pv 10)) (by exact gps_nil))) (by exact gus_cons (by exact gu_var (by exact pv 12)) (by exact gus_cons (by exact gu_var (by exact pv 13)) (by exact gps_nil)))))))))))))))))
theorem sc_is_integer : FnScope ["thing"] ["thing"] (defScope (top 7)) := ⟨rfl, rfl, rfl, by decide +kernel, rfl, by decide +kernel, by decide +kernel⟩
theorem b_is_integer {K : PySem.W.Frag} {mg : Str → Option Value} (T : Tx K mg) : Binds K T.fd_is_integer ["thing"] [] := T.F_is_integer.bindsN fun _ _ _ _ _ _ us hl => match us, hl with | [_], _ => rfl
def B_is_integer : MS :=
    mRet (mP (pAnd (pIsi (isi_int) (pVar 0)) (pNot (pIsi (isi_bool) (pVar 0)))))
def M_is_integer : List D → Out := fnB 1 [] B_is_integer
theorem ok_is_integer {P : Program} {w : World} {K : PySem.W.Frag} {mg : Str → Option Value} {base : Heap} (T : Tx K mg) : FnOk P w K mg base (L2.CX P w) 1 (He.fAd K ("is_integer", none)) T.fd_is_integer ["thing"] (spM K mg 1 [] M_is_integer) := by
  refine fn_mirD (b := B_is_integer) (st := (top 7)) (N := ["thing"]) (ps := ["thing"]) (m := []) (k := 0) T.F_is_integer sc_is_integer (by decide) (by decide) ?_
  intro cdv A outer s H vs E hr
  have tk := takes_of (E := E) (X := cxOf (L2.CX P w) P w K mg base ["thing"] "is_integer" (defScope (top 7)) (He.fAd K ("is_integer", none)) cdv A outer s H E) rfl rfl rfl rfl
  have hp := passes_of (X := cxOf (L2.CX P w) P w K mg base ["thing"] "is_integer" (defScope (top 7)) (He.fAd K ("is_integer", none)) cdv A outer s H E) rfl
  have hu1 : (cxOf (L2.CX P w) P w K mg base ["thing"] "is_integer" (defScope (top 7)) (He.fAd K ("is_integer", none)) cdv A outer s H E).A.units + 1 < cLine := Nat.lt_of_le_of_lt (Nat.add_le_add_left (by decide) _) hr.units
  exact gss_one (by exact gs_ret (by exact ge_p (by exact gu_and (by exact gu_isi T.i_int (.ty _) (by exact rfl) T.n_isinstance (by exact gv_u (by exact gu_var (by exact pv 0))) (pe_bltn (by exact rfl) T.n_int Boot.«int» rfl (by decide))) (by exact gu_one (by exact gu_not (by exact gu_isi T.i_bool (.ty _) (by exact rfl) T.n_isinstance (by exact gv_u (by exact gu_var (by exact pv 0))) (pe_bltn (by exact rfl) T.n_bool Boot.«bool» rfl (by decide))))))))
theorem sc_is_within : FnScope ["thing", "least", "most"] ["thing", "least", "most"] (defScope (top 8)) := ⟨rfl, rfl, rfl, by decide +kernel, rfl, by decide +kernel, by decide +kernel⟩
theorem b_is_within {K : PySem.W.Frag} {mg : Str → Option Value} (T : Tx K mg) : Binds K T.fd_is_within ["thing", "least", "most"] [] := T.F_is_within.bindsN fun _ _ _ _ _ _ us hl => match us, hl with | [_, _, _], _ => rfl
def B_is_within : MS :=
    mRet (mP (pAnd (pCall 1 M_is_integer (psCons (pVar 0) (psNil))) (pChain fLeA fLeA (pVar 1) (pVar 0) (pVar 2))))
def M_is_within : List D → Out := fnB 3 [] B_is_within
theorem ok_is_within {P : Program} {w : World} {K : PySem.W.Frag} {mg : Str → Option Value} {base : Heap} (T : Tx K mg) : FnOk P w K mg base (L2.CX P w) 2 (He.fAd K ("is_within", none)) T.fd_is_within ["thing", "least", "most"] (spM K mg 3 [] M_is_within) := by
  refine fn_mirD (b := B_is_within) (st := (top 8)) (N := ["thing", "least", "most"]) (ps := ["thing", "least", "most"]) (m := []) (k := 1) T.F_is_within sc_is_within (by decide) (by decide) ?_
  intro cdv A outer s H vs E hr
  have tk := takes_of (E := E) (X := cxOf (L2.CX P w) P w K mg base ["thing", "least", "most"] "is_within" (defScope (top 8)) (He.fAd K ("is_within", none)) cdv A outer s H E) rfl rfl rfl rfl
  have hp := passes_of (X := cxOf (L2.CX P w) P w K mg base ["thing", "least", "most"] "is_within" (defScope (top 8)) (He.fAd K ("is_within", none)) cdv A outer s H E) rfl
  have hu1 : (cxOf (L2.CX P w) P w K mg base ["thing", "least", "most"] "is_within" (defScope (top 8)) (He.fAd K ("is_within", none)) cdv A outer s H E).A.units + 1 < cLine := Nat.lt_of_le_of_lt (Nat.add_le_add_left (by decide) _) hr.units
  exact gss_one (by exact gs_ret (by exact ge_p (by exact gu_and (by exact gu_call tk (ok_is_integer T) (hr.mono (by decide)) (by exact rfl) T.g_is_integer T.F_is_integer.kp (b_is_integer T) (by exact gus_cons (by exact gu_var (by exact pv 0)) (by exact gps_nil))) (by exact gu_one (by exact gu_chain (op_leA hr.units0) os_leA (op_leA hr.units0) os_leA (by exact gv_u (by exact gu_var (by exact pv 1))) (by exact gv_u (by exact gu_var (by exact pv 0))) (by exact gv_u (by exact gu_var (by exact pv 2))))))))
theorem sc_is_below : FnScope ["thing", "many"] ["thing", "many"] (defScope (top 9)) := ⟨rfl, rfl, rfl, by decide +kernel, rfl, by decide +kernel, by decide +kernel⟩
theorem b_is_below {K : PySem.W.Frag} {mg : Str → Option Value} (T : Tx K mg) : Binds K T.fd_is_below ["thing", "many"] [] := T.F_is_below.bindsN fun _ _ _ _ _ _ us hl => match us, hl with | [_, _], _ => rfl
def B_is_below : MS :=
    mRet (mP (pCall 3 M_is_within (psCons (pVar 0) (psCons (pC (.int 0)) (psCons (pOp2 fSub (pVar 1) (pC (.int 1))) (psNil))))))
def M_is_below : List D → Out := fnB 2 [] B_is_below
theorem ok_is_below {P : Program} {w : World} {K : PySem.W.Frag} {mg : Str → Option Value} {base : Heap} (T : Tx K mg) : FnOk P w K mg base (L2.CX P w) 3 (He.fAd K ("is_below", none)) T.fd_is_below ["thing", "many"] (spM K mg 2 [] M_is_below) := by
  refine fn_mirD (b := B_is_below) (st := (top 9)) (N := ["thing", "many"]) (ps := ["thing", "many"]) (m := []) (k := 2) T.F_is_below sc_is_below (by decide) (by decide) ?_
  intro cdv A outer s H vs E hr
  have tk := takes_of (E := E) (X := cxOf (L2.CX P w) P w K mg base ["thing", "many"] "is_below" (defScope (top 9)) (He.fAd K ("is_below", none)) cdv A outer s H E) rfl rfl rfl rfl
  have hp := passes_of (X := cxOf (L2.CX P w) P w K mg base ["thing", "many"] "is_below" (defScope (top 9)) (He.fAd K ("is_below", none)) cdv A outer s H E) rfl
  have hu1 : (cxOf (L2.CX P w) P w K mg base ["thing", "many"] "is_below" (defScope (top 9)) (He.fAd K ("is_below", none)) cdv A outer s H E).A.units + 1 < cLine := Nat.lt_of_le_of_lt (Nat.add_le_add_left (by decide) _) hr.units
  exact gss_one (by exact gs_ret (by exact ge_p (by exact gu_call tk (ok_is_within T) (hr.mono (by decide)) (by exact rfl) T.g_is_within T.F_is_within.kp (b_is_within T) (by exact gus_cons (by exact gu_var (by exact pv 0)) (by exact gus_cons (by exact gu_int) (by exact gus_cons (by exact gu_bin op_sub os_sub (by exact gv_u (by exact gu_var (by exact pv 1))) (by exact gv_u (by exact gu_int))) (by exact gps_nil)))))))
theorem sc_is_sized : FnScope ["thing", "least", "most"] ["thing", "least", "most"] (defScope (top 10)) := ⟨rfl, rfl, rfl, by decide +kernel, rfl, by decide +kernel, by decide +kernel⟩
theorem b_is_sized {K : PySem.W.Frag} {mg : Str → Option Value} (T : Tx K mg) : Binds K T.fd_is_sized ["thing", "least", "most"] [] := T.F_is_sized.bindsN fun _ _ _ _ _ _ us hl => match us, hl with | [_, _, _], _ => rfl
def B_is_sized : MS :=
    mRet (mP (pAnd (pIsi (isi_tuple) (pVar 0)) (pChain fLeA fLeA (pVar 1) (pFn fLen (psCons (pVar 0) (psNil))) (pVar 2))))
def M_is_sized : List D → Out := fnB 3 [] B_is_sized
theorem ok_is_sized {P : Program} {w : World} {K : PySem.W.Frag} {mg : Str → Option Value} {base : Heap} (T : Tx K mg) : FnOk P w K mg base (L2.CX P w) 1 (He.fAd K ("is_sized", none)) T.fd_is_sized ["thing", "least", "most"] (spM K mg 3 [] M_is_sized) := by
  refine fn_mirD (b := B_is_sized) (st := (top 10)) (N := ["thing", "least", "most"]) (ps := ["thing", "least", "most"]) (m := []) (k := 0) T.F_is_sized sc_is_sized (by decide) (by decide) ?_
  intro cdv A outer s H vs E hr
  have tk := takes_of (E := E) (X := cxOf (L2.CX P w) P w K mg base ["thing", "least", "most"] "is_sized" (defScope (top 10)) (He.fAd K ("is_sized", none)) cdv A outer s H E) rfl rfl rfl rfl
  have hp := passes_of (X := cxOf (L2.CX P w) P w K mg base ["thing", "least", "most"] "is_sized" (defScope (top 10)) (He.fAd K ("is_sized", none)) cdv A outer s H E) rfl
  have hu1 : (cxOf (L2.CX P w) P w K mg base ["thing", "least", "most"] "is_sized" (defScope (top 10)) (He.fAd K ("is_sized", none)) cdv A outer s H E).A.units + 1 < cLine := Nat.lt_of_le_of_lt (Nat.add_le_add_left (by decide) _) hr.units
  exact gss_one (by exact gs_ret (by exact ge_p (by exact gu_and (by exact gu_isi T.i_tuple (.ty _) (by exact rfl) T.n_isinstance (by exact gv_u (by exact gu_var (by exact pv 0))) (pe_bltn (by exact rfl) T.n_tuple Boot.«tuple» rfl (by decide))) (by exact gu_one (by exact gu_chain (op_leA hr.units0) os_leA (op_leA hr.units0) os_leA (by exact gv_u (by exact gu_var (by exact pv 1))) (by exact gv_u (by exact gu_callB cr_len fs_len (by exact rfl) T.n_len Boot.«len» (by exact gvs_cons (by exact gv_u (by exact gu_var (by exact pv 0))) (by exact gps_nil)))) (by exact gv_u (by exact gu_var (by exact pv 2))))))))
theorem sc_is_tie : FnScope ["many", "thing"] ["many", "thing"] (defScope (top 14)) := ⟨rfl, rfl, rfl, by decide +kernel, rfl, by decide +kernel, by decide +kernel⟩
theorem b_is_tie {K : PySem.W.Frag} {mg : Str → Option Value} (T : Tx K mg) : Binds K T.fd_is_tie ["many", "thing"] [] := T.F_is_tie.bindsN fun _ _ _ _ _ _ us hl => match us, hl with | [_, _], _ => rfl
def B_is_tie : MS :=
    mSeq (mIf (mOr (mNot (tPu (pCall 3 M_is_sized (psCons (pVar 1) (psCons (pC (.int 4)) (psCons (pC (.int 4)) (psNil))))))) (mOr (mNot (tPu (pCall 2 M_is_below (psCons (pOp2 fAt (pVar 1) (pC (.int 0))) (psCons (pVar 0) (psNil)))))) (mNot (tPu (pCall 2 M_is_below (psCons (pOp2 fAt (pVar 1) (pC (.int 1))) (psCons (pVar 0) (psNil)))))))) (mRet (mP (pC (.bl false)))) (mNext))
    (mRet (mP (pAnd (pOp2 fLt (pOp2 fAt (pVar 1) (pC (.int 0))) (pOp2 fAt (pVar 1) (pC (.int 1)))) (pAnd (pCall 2 M_is_below (psCons (pOp2 fAt (pVar 1) (pC (.int 2))) (psCons (pC (.int 1000000)) (psNil)))) (pCall 2 M_is_below (psCons (pOp2 fAt (pVar 1) (pC (.int 3))) (psCons (pC (.int 1000000)) (psNil))))))))
def M_is_tie : List D → Out := fnB 2 [] B_is_tie
theorem ok_is_tie {P : Program} {w : World} {K : PySem.W.Frag} {mg : Str → Option Value} {base : Heap} (T : Tx K mg) : FnOk P w K mg base (L2.CX P w) 4 (He.fAd K ("is_tie", none)) T.fd_is_tie ["many", "thing"] (spM K mg 2 [] M_is_tie) := by
  refine fn_mirD (b := B_is_tie) (st := (top 14)) (N := ["many", "thing"]) (ps := ["many", "thing"]) (m := []) (k := 3) T.F_is_tie sc_is_tie (by decide) (by decide) ?_
  intro cdv A outer s H vs E hr
  have tk := takes_of (E := E) (X := cxOf (L2.CX P w) P w K mg base ["many", "thing"] "is_tie" (defScope (top 14)) (He.fAd K ("is_tie", none)) cdv A outer s H E) rfl rfl rfl rfl
  have hp := passes_of (X := cxOf (L2.CX P w) P w K mg base ["many", "thing"] "is_tie" (defScope (top 14)) (He.fAd K ("is_tie", none)) cdv A outer s H E) rfl
  have hu1 : (cxOf (L2.CX P w) P w K mg base ["many", "thing"] "is_tie" (defScope (top 14)) (He.fAd K ("is_tie", none)) cdv A outer s H E).A.units + 1 < cLine := Nat.lt_of_le_of_lt (Nat.add_le_add_left (by decide) _) hr.units
  exact gss_cons (by exact gs_if (by exact PW.pt (by exact gw_or (by exact gt_not (by exact gt_u (by exact gu_call tk (ok_is_sized T) (hr.mono (by decide)) (by exact rfl) T.g_is_sized T.F_is_sized.kp (b_is_sized T) (by exact gus_cons (by exact gu_var (by exact pv 1)) (by exact gus_cons (by exact gu_int) (by exact gus_cons (by exact gu_int) (by exact gps_nil))))))) (by exact gw_or (by exact gt_not (by exact gt_u (by exact gu_call tk (ok_is_below T) (hr.mono (by decide)) (by exact rfl) T.g_is_below T.F_is_below.kp (b_is_below T) (by exact gus_cons (by exact gu_ix (ix_at hu1) os_at (by exact gv_u (by exact gu_var (by exact pv 1))) (by exact gv_u (by exact gu_int))) (by exact gus_cons (by exact gu_var (by exact pv 0)) (by exact gps_nil)))))) (by exact gw_or1 (by exact gt_not (by exact gt_u (by exact gu_call tk (ok_is_below T) (hr.mono (by decide)) (by exact rfl) T.g_is_below T.F_is_below.kp (b_is_below T) (by exact gus_cons (by exact gu_ix (ix_at hu1) os_at (by exact gv_u (by exact gu_var (by exact pv 1))) (by exact gv_u (by exact gu_int))) (by exact gus_cons (by exact gu_var (by exact pv 0)) (by exact gps_nil)))))))))) (by exact gss_one (by exact gs_ret (by exact ge_p (by exact gu_bl)))) (by exact gss_nil)) (by exact gss_one (by exact gs_ret (by exact ge_p (by exact gu_and (by exact gu_cmp op_lt os_lt (by exact gv_u (by exact gu_ix (ix_at hu1) os_at (by exact gv_u (by exact gu_var (by exact pv 1))) (by exact gv_u (by exact gu_int)))) (by exact gv_u (by exact gu_ix (ix_at hu1) os_at (by exact gv_u (by exact gu_var (by exact pv 1))) (by exact gv_u (by exact gu_int)))) (by exact rfl)) (by exact gu_and (by exact gu_call tk (ok_is_below T) (hr.mono (by decide)) (by exact rfl) T.g_is_below T.F_is_below.kp (b_is_below T) (by exact gus_cons (by exact gu_ix (ix_at hu1) os_at (by exact gv_u (by exact gu_var (by exact pv 1))) (by exact gv_u (by exact gu_int))) (by exact gus_cons (by exact gu_globI (by exact rfl) T.c_MOST_LETS) (by exact gps_nil)))) (by exact gu_one (by exact gu_call tk (ok_is_below T) (hr.mono (by decide)) (by exact rfl) T.g_is_below T.F_is_below.kp (b_is_below T) (by exact gus_cons (by exact gu_ix (ix_at hu1) os_at (by exact gv_u (by exact gu_var (by exact pv 1))) (by exact gv_u (by exact gu_int))) (by exact gus_cons (by exact gu_globI (by exact rfl) T.c_MOST_LETS) (by exact gps_nil))))))))))
theorem sc_beside : FnScope ["ties", "house", "tie"] ["ties", "house"] (defScope (top 16)) := ⟨rfl, rfl, rfl, by decide +kernel, rfl, by decide +kernel, by decide +kernel⟩
theorem b_beside {K : PySem.W.Frag} {mg : Str → Option Value} (T : Tx K mg) : Binds K T.fd_beside ["ties", "house"] [] := T.F_beside.bindsN fun _ _ _ _ _ _ us hl => match us, hl with | [_, _], _ => rfl
def B_beside : MS :=
    mRet (mOp2 fAdd (eO (mFrz (mLc [2] (iSeq (mP (pVar 0))) (gSet 2) (tPu (pOp2 (eqD false) (pOp2 fAt (pVar 2) (pC (.int 0))) (pVar 1))) (mP (pOp2 fAt (pVar 2) (pC (.int 1))))))) (eO (mFrz (mLc [2] (iSeq (mP (pVar 0))) (gSet 2) (tPu (pOp2 (eqD false) (pOp2 fAt (pVar 2) (pC (.int 1))) (pVar 1))) (mP (pOp2 fAt (pVar 2) (pC (.int 0))))))))
def M_beside : List D → Out := fnB 3 [] B_beside
theorem ok_beside {P : Program} {w : World} {K : PySem.W.Frag} {mg : Str → Option Value} {base : Heap} (T : Tx K mg) : FnOk P w K mg base (L2.CX P w) 2 (He.fAd K ("beside", none)) T.fd_beside ["ties", "house"] (spM K mg 2 [] M_beside) := by
  refine fn_mirD (b := B_beside) (st := (top 16)) (N := ["ties", "house", "tie"]) (ps := ["ties", "house"]) (m := []) (k := 1) T.F_beside sc_beside (by decide) (by decide) ?_
  intro cdv A outer s H vs E hr
  have tk := takes_of (E := E) (X := cxOf (L2.CX P w) P w K mg base ["ties", "house", "tie"] "beside" (defScope (top 16)) (He.fAd K ("beside", none)) cdv A outer s H E) rfl rfl rfl rfl
  have hp := passes_of (X := cxOf (L2.CX P w) P w K mg base ["ties", "house", "tie"] "beside" (defScope (top 16)) (He.fAd K ("beside", none)) cdv A outer s H E) rfl
  have hu1 : (cxOf (L2.CX P w) P w K mg base ["ties", "house", "tie"] "beside" (defScope (top 16)) (He.fAd K ("beside", none)) cdv A outer s H E).A.units + 1 < cLine := Nat.lt_of_le_of_lt (Nat.add_le_add_left (by decide) _) hr.units
  exact gss_one (by exact gs_ret (by exact ge_bin or_add os_add (by exact ge_o (by exact ge_frz (by exact gf_lc (own := [("tie", 2)]) (by exact rfl) (by exact sc_beside.nd) (by exact gi_seq (by exact ge_p (by exact gu_var (by exact pv 0)))) (by show BlkOk ["ties", "house", "tie"] (defScope (top 16)) _ [("tie", 2)]; exact ⟨rfl, by decide +kernel, by decide +kernel, by decide +kernel, by decide +kernel⟩) (fun s2 H2 C2 cl2 fp2 => by exact gg_name (by exact off_jOf rfl) (by exact sc_beside.nd) (by exact rfl) (by first | exact Or.inl rfl | exact Or.inr rfl) (by first | exact .inl rfl | exact .inr rfl)) (fun s2 H2 C2 cl2 fp2 => by exact gts_one (by exact gt_cmpU (op_eqD hr.units) os_eqD (by exact gv_u (by exact gu_ix (ix_at hu1) os_at (by exact gv_u (by exact gu_var (by exact pv 2))) (by exact gv_u (by exact gu_int)))) (by exact gv_u (by exact gu_var (by exact pv 1))) (by exact rfl))) (fun s2 H2 C2 cl2 fp2 => by exact ge_p (by exact gu_ix (ix_at hu1) os_at (by exact gv_u (by exact gu_var (by exact pv 2))) (by exact gv_u (by exact gu_int)))) (by decide) (by intro v hv;  exact off_all (by decide) v hv)))) (by exact ge_o (by exact ge_frz (by exact gf_lc (own := [("tie", 2)]) (by exact rfl) (by exact sc_beside.nd) (by exact gi_seq (by exact ge_p (by exact gu_var (by exact pv 0)))) (by show BlkOk ["ties", "house", "tie"] (defScope (top 16)) _ [("tie", 2)]; exact ⟨rfl, by decide +kernel, by decide +kernel, by decide +kernel, by decide +kernel⟩) (fun s2 H2 C2 cl2 fp2 => by exact gg_name (by exact off_jOf rfl) (by exact sc_beside.nd) (by exact rfl) (by first | exact Or.inl rfl | exact Or.inr rfl) (by first | exact .inl rfl | exact .inr rfl)) (fun s2 H2 C2 cl2 fp2 => by exact gts_one (by exact gt_cmpU (op_eqD hr.units) os_eqD (by exact gv_u (by exact gu_ix (ix_at hu1) os_at (by exact gv_u (by exact gu_var (by exact pv 2))) (by exact gv_u (by exact gu_int)))) (by exact gv_u (by exact gu_var (by exact pv 1))) (by exact rfl))) (fun s2 H2 C2 cl2 fp2 => by exact ge_p (by exact gu_ix (ix_at hu1) os_at (by exact gv_u (by exact gu_var (by exact pv 2))) (by exact gv_u (by exact gu_int)))) (by decide) (by intro v hv;  exact off_all (by decide) v hv))))))
theorem sc_Web_init : FnScope ["self", "many", "ties", "spring", "mouth", "index", "tie", "house", "a", "b", "there", "back"] ["self", "many", "ties", "spring", "mouth"] (defScope (mem 15 0)) := ⟨rfl, rfl, rfl, by decide +kernel, rfl, by decide +kernel, by decide +kernel⟩
theorem b_Web_init {K : PySem.W.Frag} {mg : Str → Option Value} (T : Tx K mg) : Binds K T.fd_Web_init ["self", "many", "ties", "spring", "mouth"] [] := T.F_Web_init.bindsN fun _ _ _ _ _ _ us hl => match us, hl with | [_, _, _, _, _], _ => rfl
def B_Web_init : MS :=
    mSeq (mIf (mNot (tPu (pCall 3 M_is_within (psCons (pVar 1) (psCons (pC (.int 2)) (psCons (pC (.int 10)) (psNil))))))) (mRaise1 "BadWeb" "part" (mP (pC (.str "many")))) (mNext))
    (mSeq (mIf (mNot (tPu (pIsi (isi_tuple) (pVar 2)))) (mRaise1 "BadWeb" "part" (mP (pOp1 fNeg (pC (.int 1))))) (mNext))
    (mSeq (mFor (iEnumD (aCons (eO (mP (pVar 2))) (aNil))) (gUn (gOne (gSet 5) (gOne (gSet 6) (gNone)))) (mIf (mOr (mNot (tPu (pCall 2 M_is_tie (psCons (pVar 1) (psCons (pVar 6) (psNil)))))) (mAnd (tPu (pOp2 fGt (pVar 5) (pC (.int 0)))) (tPu (pOp2 fLeA (pSl fSl (pVar 6) (pNoPart) (pPart (pC (.int 2)))) (pSl fSl (pOp2 fAt (pVar 2) (pOp2 fSub (pVar 5) (pC (.int 1)))) (pNoPart) (pPart (pC (.int 2)))))))) (mRaise1 "BadWeb" "part" (mP (pVar 5))) (mNext)))
    (mSeq (mIf (mNot (tPu (pCall 2 M_is_below (psCons (pVar 3) (psCons (pVar 1) (psNil)))))) (mRaise1 "BadWeb" "part" (mP (pC (.str "spring")))) (mNext))
    (mSeq (mIf (mOr (mNot (tPu (pCall 2 M_is_below (psCons (pVar 4) (psCons (pVar 1) (psNil)))))) (tPu (pOp2 (eqD false) (pVar 4) (pVar 3)))) (mRaise1 "BadWeb" "part" (mP (pC (.str "mouth")))) (mNext))
    (mSeq (mSetF tabF0 0 "many" (mP (pVar 1)))
    (mSeq (mSetF tabF0 0 "ties" (mP (pVar 2)))
    (mSeq (mSetF tabF0 0 "spring" (mP (pVar 3)))
    (mSeq (mSetF tabF0 0 "mouth" (mP (pVar 4)))
    (mSeq (mSetF tabF0 0 "near" (mFrz (mLc [7] (iRange1 (aCons (eO (mP (pVar 1))) (aNil))) (gSet 7) (mYes) (mP (pFn fTuple (psCons (pFn fSortI (psCons (pCall 2 M_beside (psCons (pVar 2) (psCons (pVar 7) (psNil)))) (psNil))) (psNil)))))))
    (mSeq (mSetFB tabF0 0 "room" (mNewT))
    (mFor (iSeq (mP (pVar 2))) (gUn (gOne (gSet 8) (gOne (gSet 9) (gOne (gSet 10) (gOne (gSet 11) (gNone)))))) (mSeq (mSetI tabF0 0 ["room"] (pTup (psCons (pVar 8) (psCons (pVar 9) (psNil)))) (mP (pVar 10)))
    (mSetI tabF0 0 ["room"] (pTup (psCons (pVar 9) (psCons (pVar 8) (psNil)))) (mP (pVar 11)))))))))))))))
def M_Web_init : List D → Out := fnB 12 [true] B_Web_init
theorem ok_Web_init {P : Program} {w : World} {K : PySem.W.Frag} {mg : Str → Option Value} {base : Heap} (T : Tx K mg) : FnOk P w K mg base (L2.CX P w) 5 (He.fAd K ("Web", some "__init__")) T.fd_Web_init ["self", "many", "ties", "spring", "mouth"] (spM K mg 5 [true] M_Web_init) := by
  refine fn_mirD (b := B_Web_init) (st := (mem 15 0)) (N := ["self", "many", "ties", "spring", "mouth", "index", "tie", "house", "a", "b", "there", "back"]) (ps := ["self", "many", "ties", "spring", "mouth"]) (m := [true]) (k := 4) T.F_Web_init sc_Web_init (by decide) (by decide) ?_
  intro cdv A outer s H vs E hr
  have tk := takes_of (E := E) (X := cxOf (L2.CX P w) P w K mg base ["self", "many", "ties", "spring", "mouth", "index", "tie", "house", "a", "b", "there", "back"] "Web.__init__" (defScope (mem 15 0)) (He.fAd K ("Web", some "__init__")) cdv A outer s H E) rfl rfl rfl rfl
  have hp := passes_of (X := cxOf (L2.CX P w) P w K mg base ["self", "many", "ties", "spring", "mouth", "index", "tie", "house", "a", "b", "there", "back"] "Web.__init__" (defScope (mem 15 0)) (He.fAd K ("Web", some "__init__")) cdv A outer s H E) rfl
  have hu1 : (cxOf (L2.CX P w) P w K mg base ["self", "many", "ties", "spring", "mouth", "index", "tie", "house", "a", "b", "there", "back"] "Web.__init__" (defScope (mem 15 0)) (He.fAd K ("Web", some "__init__")) cdv A outer s H E).A.units + 1 < cLine := Nat.lt_of_le_of_lt (Nat.add_le_add_left (by decide) _) hr.units
  exact gss_cons (by exact gs_if (by exact gt_not (by exact gt_u (by exact gu_call tk (ok_is_within T) (hr.mono (by decide)) (by exact rfl) T.g_is_within T.F_is_within.kp (b_is_within T) (by exact gus_cons (by exact gu_var (by exact pv 1)) (by exact gus_cons (by exact gu_int) (by exact gus_cons (by exact gu_globI (by exact rfl) T.c_MOST_HOUSES) (by exact gps_nil))))))) (by exact gss_one (by exact gs_raise1 (by exact rfl) tk T.y_BadWeb T.yi_BadWeb.1 T.yi_BadWeb.2 (ok_x_BadWeb T) (hr.mono (by decide)) (b_x_BadWeb T) (passes_call tk (fun _ _ _ _ z => z.elim)) (by exact rfl) T.g_BadWeb (by exact ge_p (by exact gu_str)))) (by exact gss_nil)) (by exact gss_cons (by exact gs_if (by exact gt_not (by exact gt_u (by exact gu_isi T.i_tuple (.ty _) (by exact rfl) T.n_isinstance (by exact gv_u (by exact gu_var (by exact pv 2))) (pe_bltn (by exact rfl) T.n_tuple Boot.«tuple» rfl (by decide))))) (by exact gss_one (by exact gs_raise1 (by exact rfl) tk T.y_BadWeb T.yi_BadWeb.1 T.yi_BadWeb.2 (ok_x_BadWeb T) (hr.mono (by decide)) (b_x_BadWeb T) (passes_call tk (fun _ _ _ _ z => z.elim)) (by exact rfl) T.g_BadWeb (by exact ge_p (by exact gu_un un_neg us_neg (by exact gv_u (by exact gu_int)))))) (by exact gss_nil)) (by exact gss_cons (by exact gs_for (by exact hp) (by exact rfl) (by exact gi_enum (by exact rfl) T.n_enumerate (by exact ga_cons (by exact ge_o (by exact ge_p (by exact gu_var (by exact pv 2)))) (by exact ga_nil))) (by exact gg_tup (by exact rfl) (by exact ggs_cons (by exact gg_name (by exact off_jOf rfl) (by exact sc_Web_init.nd) (by exact rfl) (by first | exact Or.inl rfl | exact Or.inr rfl)) (by exact ggs_cons (by exact gg_name (by exact off_jOf rfl) (by exact sc_Web_init.nd) (by exact rfl) (by first | exact Or.inl rfl | exact Or.inr rfl)) (by exact ggs_nil))) (by exact gOne_len (gOne_len (gNone_len)))) (by exact gss_one (by exact gs_if (by exact PW.pt (by exact gw_or (by exact gt_not (by exact gt_u (by exact gu_call tk (ok_is_tie T) (hr.mono (by decide)) (by exact rfl) T.g_is_tie T.F_is_tie.kp (b_is_tie T) (by exact gus_cons (by exact gu_var (by exact pv 1)) (by exact gus_cons (by exact gu_var (by exact pv 6)) (by exact gps_nil)))))) (by exact gw_or1 (by exact PW.pt (by exact gw_and (by exact gt_cmpU op_gt os_gt (by exact gv_u (by exact gu_var (by exact pv 5))) (by exact gv_u (by exact gu_int)) (by exact rfl)) (by exact gw_and1 (by exact gt_cmpU (op_leA hr.units0) os_leA (by exact gv_u (by exact gu_sl slr_seq ss_seq (by exact gv_u (by exact gu_var (by exact pv 6))) (by exact gpp_none) (by exact gpp_some (by exact gu_int)))) (by exact gv_u (by exact gu_sl slr_seq ss_seq (by exact gv_u (by exact gu_ix (ix_at hu1) os_at (by exact gv_u (by exact gu_var (by exact pv 2))) (by exact gv_u (by exact gu_bin op_sub os_sub (by exact gv_u (by exact gu_var (by exact pv 5))) (by exact gv_u (by exact gu_int)))))) (by exact gpp_none) (by exact gpp_some (by exact gu_int)))) (by exact rfl)))))))) (by exact gss_one (by exact gs_raise1 (by exact rfl) tk T.y_BadWeb T.yi_BadWeb.1 T.yi_BadWeb.2 (ok_x_BadWeb T) (hr.mono (by decide)) (b_x_BadWeb T) (passes_call tk (fun _ _ _ _ z => z.elim)) (by exact rfl) T.g_BadWeb (by exact ge_p (by exact gu_var (by exact pv 5))))) (by exact gss_nil)))) (by exact gss_cons (by exact gs_if (by exact gt_not (by exact gt_u (by exact gu_call tk (ok_is_below T) (hr.mono (by decide)) (by exact rfl) T.g_is_below T.F_is_below.kp (b_is_below T) (by exact gus_cons (by exact gu_var (by exact pv 3)) (by exact gus_cons (by exact gu_var (by exact pv 1)) (by exact gps_nil)))))) (by exact gss_one (by exact gs_raise1 (by exact rfl) tk T.y_BadWeb T.yi_BadWeb.1 T.yi_BadWeb.2 (ok_x_BadWeb T) (hr.mono (by decide)) (b_x_BadWeb T) (passes_call tk (fun _ _ _ _ z => z.elim)) (by exact rfl) T.g_BadWeb (by exact ge_p (by exact gu_str)))) (by exact gss_nil)) (by exact gss_cons (by exact gs_if (by exact PW.pt (by exact gw_or (by exact gt_not (by exact gt_u (by exact gu_call tk (ok_is_below T) (hr.mono (by decide)) (by exact rfl) T.g_is_below T.F_is_below.kp (b_is_below T) (by exact gus_cons (by exact gu_var (by exact pv 4)) (by exact gus_cons (by exact gu_var (by exact pv 1)) (by exact gps_nil)))))) (by exact gw_or1 (by exact gt_cmpU (op_eqD hr.units) os_eqD (by exact gv_u (by exact gu_var (by exact pv 4))) (by exact gv_u (by exact gu_var (by exact pv 3))) (by exact rfl))))) (by exact gss_one (by exact gs_raise1 (by exact rfl) tk T.y_BadWeb T.yi_BadWeb.1 T.yi_BadWeb.2 (ok_x_BadWeb T) (hr.mono (by decide)) (b_x_BadWeb T) (passes_call tk (fun _ _ _ _ z => z.elim)) (by exact rfl) T.g_BadWeb (by exact ge_p (by exact gu_str)))) (by exact gss_nil)) (by exact gss_cons (by exact gs_setF T.fld (by exact pv 0) (by exact ge_p (by exact gu_var (by exact pv 1)))) (by exact gss_cons (by exact gs_setF T.fld (by exact pv 0) (by exact ge_p (by exact gu_var (by exact pv 2)))) (by exact gss_cons (by exact gs_setF T.fld (by exact pv 0) (by exact ge_p (by exact gu_var (by exact pv 3)))) (by exact gss_cons (by exact gs_setF T.fld (by exact pv 0) (by exact ge_p (by exact gu_var (by exact pv 4)))) (by exact gss_cons (by exact gs_setF T.fld (by exact pv 0) (by exact ge_frz (by exact gf_lc (own := [("house", 7)]) (by exact rfl) (by exact sc_Web_init.nd) (by exact gi_range1 (by exact rfl) T.n_range (by exact ga_cons (by exact ge_o (by exact ge_p (by exact gu_var (by exact pv 1)))) (by exact ga_nil))) (by show BlkOk ["self", "many", "ties", "spring", "mouth", "index", "tie", "house", "a", "b", "there", "back"] (defScope (mem 15 0)) _ [("house", 7)]; exact ⟨rfl, by decide +kernel, by decide +kernel, by decide +kernel, by decide +kernel⟩) (fun s2 H2 C2 cl2 fp2 => by exact gg_name (by exact off_jOf rfl) (by exact sc_Web_init.nd) (by exact rfl) (by first | exact Or.inl rfl | exact Or.inr rfl) (by first | exact .inl rfl | exact .inr rfl)) (fun s2 H2 C2 cl2 fp2 => by exact gts_nil) (fun s2 H2 C2 cl2 fp2 => by exact ge_p (by exact gu_callTy call_tuple_of fs_tuple (by exact rfl) T.n_tuple Boot.«tuple» (by exact gvs_cons (by exact gv_u (by exact gu_callB cr_sortedI ff_sortI.toS (by exact rfl) T.n_sorted Boot.«sorted» (by exact gvs_cons (by exact gv_u (by exact gu_call takes0 (ok_beside T) (hr.mono (by decide)) (by exact rfl) T.g_beside T.F_beside.kp (b_beside T) (by exact gus_cons (by exact gu_var (by exact pv 2)) (by exact gus_cons (by exact gu_var (by exact pv 7)) (by exact gps_nil))))) (by exact gps_nil)))) (by exact gps_nil)))) (by decide) (by intro v hv;  exact off_all (by decide) v hv)))) (by exact gss_cons (by exact gs_setFB T.fld (by exact pv 0) (by exact gf_dnewT)) (by exact gss_one (by exact gs_for (by exact hp) (by exact rfl) (by exact gi_seq (by exact ge_p (by exact gu_var (by exact pv 2)))) (by exact gg_tup (by exact rfl) (by exact ggs_cons (by exact gg_name (by exact off_jOf rfl) (by exact sc_Web_init.nd) (by exact rfl) (by first | exact Or.inl rfl | exact Or.inr rfl)) (by exact ggs_cons (by exact gg_name (by exact off_jOf rfl) (by exact sc_Web_init.nd) (by exact rfl) (by first | exact Or.inl rfl | exact Or.inr rfl)) (by exact ggs_cons (by exact gg_name (by exact off_jOf rfl) (by exact sc_Web_init.nd) (by exact rfl) (by first | exact Or.inl rfl | exact Or.inr rfl)) (by exact ggs_cons (by exact gg_name (by exact off_jOf rfl) (by exact sc_Web_init.nd) (by exact rfl) (by first | exact Or.inl rfl | exact Or.inr rfl)) (by exact ggs_nil))))) (by exact gOne_len (gOne_len (gOne_len (gOne_len (gNone_len)))))) (by exact gss_cons (by exact gs_setI hu1 (by exact gp_fld (p := []) T.fld (by exact gp_var (by exact pv 0))) (by exact gk_tup (by exact gus_cons (by exact gu_var (by exact pv 8)) (by exact gus_cons (by exact gu_var (by exact pv 9)) (by exact gps_nil)))) (by exact ge_p (by exact gu_var (by exact pv 10)))) (by exact gss_one (by exact gs_setI hu1 (by exact gp_fld (p := []) T.fld (by exact gp_var (by exact pv 0))) (by exact gk_tup (by exact gus_cons (by exact gu_var (by exact pv 9)) (by exact gus_cons (by exact gu_var (by exact pv 8)) (by exact gps_nil)))) (by exact ge_p (by exact gu_var (by exact pv 11))))))))))))))))))
theorem sc_law_web_of : FnScope ["_law_plan"] ["_law_plan"] (defScope (top 39)) := ⟨rfl, rfl, rfl, by decide +kernel, rfl, by decide +kernel, by decide +kernel⟩
theorem b_law_web_of {K : PySem.W.Frag} {mg : Str → Option Value} (T : Tx K mg) : Binds K T.fd_law_web_of ["_law_plan"] [] := T.F_law_web_of.bindsN fun _ _ _ _ _ _ us hl => match us, hl with | [_], _ => rfl
def B_law_web_of : MS :=
    mRet (mFrz (mMake "Web" 5 M_Web_init (aCons (eO (mP (pOp2 fAt (pVar 0) (pC (.int 0))))) (aCons (eO (mP (pOp2 fAt (pVar 0) (pC (.int 1))))) (aCons (eO (mP (pOp2 fAt (pVar 0) (pC (.int 2))))) (aCons (eO (mP (pOp2 fAt (pVar 0) (pC (.int 3))))) (aNil)))))))
def M_law_web_of : List D → Out := fnB 1 [] B_law_web_of
theorem ok_law_web_of {P : Program} {w : World} {K : PySem.W.Frag} {mg : Str → Option Value} {base : Heap} (T : Tx K mg) : FnOk P w K mg base (L2.CX P w) 7 (He.fAd K ("_law_web_of", none)) T.fd_law_web_of ["_law_plan"] (spM K mg 1 [] M_law_web_of) := by
  refine fn_mirD (b := B_law_web_of) (st := (top 39)) (N := ["_law_plan"]) (ps := ["_law_plan"]) (m := []) (k := 6) T.F_law_web_of sc_law_web_of (by decide) (by decide) ?_
  intro cdv A outer s H vs E hr
  have tk := takes_of (E := E) (X := cxOf (L2.CX P w) P w K mg base ["_law_plan"] "_law_web_of" (defScope (top 39)) (He.fAd K ("_law_web_of", none)) cdv A outer s H E) rfl rfl rfl rfl
  have hp := passes_of (X := cxOf (L2.CX P w) P w K mg base ["_law_plan"] "_law_web_of" (defScope (top 39)) (He.fAd K ("_law_web_of", none)) cdv A outer s H E) rfl
  have hu1 : (cxOf (L2.CX P w) P w K mg base ["_law_plan"] "_law_web_of" (defScope (top 39)) (He.fAd K ("_law_web_of", none)) cdv A outer s H E).A.units + 1 < cLine := Nat.lt_of_le_of_lt (Nat.add_le_add_left (by decide) _) hr.units
  exact gss_one (by exact gs_ret (by exact ge_frz (by exact gf_make tk T.mk_Web (ok_Web_init T) (hr.mono (by decide)) (by exact rfl) T.g_Web (b_Web_init T) (by exact ga_cons (by exact ge_o (by exact ge_p (by exact gu_ix (ix_at hu1) os_at (by exact gv_u (by exact gu_var (by exact pv 0))) (by exact gv_u (by exact gu_int))))) (by exact ga_cons (by exact ge_o (by exact ge_p (by exact gu_ix (ix_at hu1) os_at (by exact gv_u (by exact gu_var (by exact pv 0))) (by exact gv_u (by exact gu_int))))) (by exact ga_cons (by exact ge_o (by exact ge_p (by exact gu_ix (ix_at hu1) os_at (by exact gv_u (by exact gu_var (by exact pv 0))) (by exact gv_u (by exact gu_int))))) (by exact ga_cons (by exact ge_o (by exact ge_p (by exact gu_ix (ix_at hu1) os_at (by exact gv_u (by exact gu_var (by exact pv 0))) (by exact gv_u (by exact gu_int))))) (by exact ga_nil))))))))
theorem sc_law_is_integer : FnScope ["_law_thing"] ["_law_thing"] (defScope (top 33)) := ⟨rfl, rfl, rfl, by decide +kernel, rfl, by decide +kernel, by decide +kernel⟩
theorem b_law_is_integer {K : PySem.W.Frag} {mg : Str → Option Value} (T : Tx K mg) : Binds K T.fd_law_is_integer ["_law_thing"] [] := T.F_law_is_integer.bindsN fun _ _ _ _ _ _ us hl => match us, hl with | [_], _ => rfl
def B_law_is_integer : MS :=
    mRet (mP (pAnd (pIsi (isi_int) (pVar 0)) (pNot (pIsi (isi_bool) (pVar 0)))))
def M_law_is_integer : List D → Out := fnB 1 [] B_law_is_integer
theorem ok_law_is_integer {P : Program} {w : World} {K : PySem.W.Frag} {mg : Str → Option Value} {base : Heap} (T : Tx K mg) : FnOk P w K mg base (L2.CX P w) 1 (He.fAd K ("_law_is_integer", none)) T.fd_law_is_integer ["_law_thing"] (spM K mg 1 [] M_law_is_integer) := by
  refine fn_mirD (b := B_law_is_integer) (st := (top 33)) (N := ["_law_thing"]) (ps := ["_law_thing"]) (m := []) (k := 0) T.F_law_is_integer sc_law_is_integer (by decide) (by decide) ?_
  intro cdv A outer s H vs E hr
  have tk := takes_of (E := E) (X := cxOf (L2.CX P w) P w K mg base ["_law_thing"] "_law_is_integer" (defScope (top 33)) (He.fAd K ("_law_is_integer", none)) cdv A outer s H E) rfl rfl rfl rfl
  have hp := passes_of (X := cxOf (L2.CX P w) P w K mg base ["_law_thing"] "_law_is_integer" (defScope (top 33)) (He.fAd K ("_law_is_integer", none)) cdv A outer s H E) rfl
  have hu1 : (cxOf (L2.CX P w) P w K mg base ["_law_thing"] "_law_is_integer" (defScope (top 33)) (He.fAd K ("_law_is_integer", none)) cdv A outer s H E).A.units + 1 < cLine := Nat.lt_of_le_of_lt (Nat.add_le_add_left (by decide) _) hr.units
  exact gss_one (by exact gs_ret (by exact ge_p (by exact gu_and (by exact gu_isi T.i_int (.ty _) (by exact rfl) T.n_isinstance (by exact gv_u (by exact gu_var (by exact pv 0))) (pe_bltn (by exact rfl) T.n_int Boot.«int» rfl (by decide))) (by exact gu_one (by exact gu_not (by exact gu_isi T.i_bool (.ty _) (by exact rfl) T.n_isinstance (by exact gv_u (by exact gu_var (by exact pv 0))) (pe_bltn (by exact rfl) T.n_bool Boot.«bool» rfl (by decide))))))))
theorem sc_law_same : FnScope ["_law_actual", "_law_due", "_law_one", "_law_other"] ["_law_actual", "_law_due"] (defScope (top 35)) := ⟨rfl, rfl, rfl, by decide +kernel, rfl, by decide +kernel, by decide +kernel⟩
theorem b_law_same {K : PySem.W.Frag} {mg : Str → Option Value} (T : Tx K mg) : Binds K T.fd_law_same ["_law_actual", "_law_due"] [] := T.F_law_same.bindsN fun _ _ _ _ _ _ us hl => match us, hl with | [_, _], _ => rfl
def B_law_same (M0 : List D → Out) : MS :=
    mSeq (mIf (tPu (pOp2 fIs (pVar 1) (pC .non))) (mRet (mP (pOp2 fIs (pVar 0) (pC .non)))) (mNext))
    (mSeq (mIf (tPu (pOp2 fIs (pVar 1) (pC (.bl true)))) (mRet (mP (pOp2 fIs (pVar 0) (pC (.bl true))))) (mNext))
    (mSeq (mIf (tPu (pOp2 fIs (pVar 1) (pC (.bl false)))) (mRet (mP (pOp2 fIs (pVar 0) (pC (.bl false))))) (mNext))
    (mSeq (mIf (tPu (pIsi (isi_int) (pVar 1))) (mRet (mP (pAnd (pCall 1 M_law_is_integer (psCons (pVar 0) (psNil))) (pOp2 (eqD false) (pVar 0) (pVar 1))))) (mNext))
    (mSeq (mIf (tPu (pIsi (isi_str) (pVar 1))) (mRet (mP (pAnd (pIsi (isi_str) (pVar 0)) (pOp2 (eqD false) (pVar 0) (pVar 1))))) (mNext))
    (mSeq (mIf (mOr (tPu (pOp2 (eqD true) (pIsi (isi_tuple) (pVar 1)) (pIsi (isi_tuple) (pVar 0)))) (tPu (pOp2 (eqD true) (pIsi (isi_list) (pVar 1)) (pIsi (isi_list) (pVar 0))))) (mRet (mP (pC (.bl false)))) (mNext))
    (mSeq (mIf (tPu (pOp2 (eqD true) (pFn fLen (psCons (pVar 0) (psNil))) (pFn fLen (psCons (pVar 1) (psNil))))) (mRet (mP (pC (.bl false)))) (mNext))
    (mSeq (mFor (iZipD (aCons (eO (mP (pVar 0))) (aCons (eO (mP (pVar 1))) (aNil)))) (gUn (gOne (gSet 2) (gOne (gSet 3) (gNone)))) (mIf (mNot (tPu (pCall 2 M0 (psCons (pVar 2) (psCons (pVar 3) (psNil)))))) (mRet (mP (pC (.bl false)))) (mNext)))
    (mRet (mP (pC (.bl true)))))))))))
def M_law_same : Nat → List D → Out
  | 0 => fun _ => .bad
  | n + 1 => fnB 4 [] (B_law_same (M_law_same n))
theorem ok_law_same {P : Program} {w : World} {K : PySem.W.Frag} {mg : Str → Option Value} {base : Heap} (T : Tx K mg) : ∀ n : Nat, FnOk P w K mg base (L2.CX P w) (n + 2) (He.fAd K ("_law_same", none)) T.fd_law_same ["_law_actual", "_law_due"] (spM K mg 2 [] (M_law_same n))
  | 0 => fn_none rfl
  | n + 1 => by
    have G0 := ok_law_same (P := P) (w := w) (base := base) T n
    rw [show n + 1 + 2 = (n + 2) + 1 from by omega]
    refine fn_mirD (b := B_law_same (M_law_same n)) (st := (top 35)) (N := ["_law_actual", "_law_due", "_law_one", "_law_other"]) (ps := ["_law_actual", "_law_due"]) (m := []) (k := n + 2) T.F_law_same sc_law_same (by decide) (by decide) ?_
    intro cdv A outer s H vs E hr
    have tk := takes_of (E := E) (X := cxOf (L2.CX P w) P w K mg base ["_law_actual", "_law_due", "_law_one", "_law_other"] "_law_same" (defScope (top 35)) (He.fAd K ("_law_same", none)) cdv A outer s H E) rfl rfl rfl rfl
    have hp := passes_of (X := cxOf (L2.CX P w) P w K mg base ["_law_actual", "_law_due", "_law_one", "_law_other"] "_law_same" (defScope (top 35)) (He.fAd K ("_law_same", none)) cdv A outer s H E) rfl
    have hu1 : (cxOf (L2.CX P w) P w K mg base ["_law_actual", "_law_due", "_law_one", "_law_other"] "_law_same" (defScope (top 35)) (He.fAd K ("_law_same", none)) cdv A outer s H E).A.units + 1 < cLine := Nat.lt_of_le_of_lt (Nat.add_le_add_left (by decide) _) hr.units
    exact gss_cons (by exact gs_if (by exact gt_cmpU op_isA os_isA (by exact gv_u (by exact gu_var (by exact pv 1))) (by exact gv_u (by exact gu_non)) (by exact rfl)) (by exact gss_one (by exact gs_ret (by exact ge_p (by exact gu_cmp op_isA os_isA (by exact gv_u (by exact gu_var (by exact pv 0))) (by exact gv_u (by exact gu_non)) (by exact rfl))))) (by exact gss_nil)) (by exact gss_cons (by exact gs_if (by exact gt_cmpU op_isA os_isA (by exact gv_u (by exact gu_var (by exact pv 1))) (by exact gv_u (by exact gu_bl)) (by exact rfl)) (by exact gss_one (by exact gs_ret (by exact ge_p (by exact gu_cmp op_isA os_isA (by exact gv_u (by exact gu_var (by exact pv 0))) (by exact gv_u (by exact gu_bl)) (by exact rfl))))) (by exact gss_nil)) (by exact gss_cons (by exact gs_if (by exact gt_cmpU op_isA os_isA (by exact gv_u (by exact gu_var (by exact pv 1))) (by exact gv_u (by exact gu_bl)) (by exact rfl)) (by exact gss_one (by exact gs_ret (by exact ge_p (by exact gu_cmp op_isA os_isA (by exact gv_u (by exact gu_var (by exact pv 0))) (by exact gv_u (by exact gu_bl)) (by exact rfl))))) (by exact gss_nil)) (by exact gss_cons (by exact gs_if (by exact gt_u (by exact gu_isi T.i_int (.ty _) (by exact rfl) T.n_isinstance (by exact gv_u (by exact gu_var (by exact pv 1))) (pe_bltn (by exact rfl) T.n_int Boot.«int» rfl (by decide)))) (by exact gss_one (by exact gs_ret (by exact ge_p (by exact gu_and (by exact gu_call tk (ok_law_is_integer T) (hr.mono (by omega)) (by exact rfl) T.g__law_is_integer T.F_law_is_integer.kp (b_law_is_integer T) (by exact gus_cons (by exact gu_var (by exact pv 0)) (by exact gps_nil))) (by exact gu_one (by exact gu_cmp (op_eqD hr.units) os_eqD (by exact gv_u (by exact gu_var (by exact pv 0))) (by exact gv_u (by exact gu_var (by exact pv 1))) (by exact rfl))))))) (by exact gss_nil)) (by exact gss_cons (by exact gs_if (by exact gt_u (by exact gu_isi T.i_str (.ty _) (by exact rfl) T.n_isinstance (by exact gv_u (by exact gu_var (by exact pv 1))) (pe_bltn (by exact rfl) T.n_str Boot.«str» rfl (by decide)))) (by exact gss_one (by exact gs_ret (by exact ge_p (by exact gu_and (by exact gu_isi T.i_str (.ty _) (by exact rfl) T.n_isinstance (by exact gv_u (by exact gu_var (by exact pv 0))) (pe_bltn (by exact rfl) T.n_str Boot.«str» rfl (by decide))) (by exact gu_one (by exact gu_cmp (op_eqD hr.units) os_eqD (by exact gv_u (by exact gu_var (by exact pv 0))) (by exact gv_u (by exact gu_var (by exact pv 1))) (by exact rfl))))))) (by exact gss_nil)) (by exact gss_cons (by exact gs_if (by exact PW.pt (by exact gw_or (by exact gt_cmpU (op_neD hr.units) os_neD (by exact gv_u (by exact gu_isi T.i_tuple (.ty _) (by exact rfl) T.n_isinstance (by exact gv_u (by exact gu_var (by exact pv 1))) (pe_bltn (by exact rfl) T.n_tuple Boot.«tuple» rfl (by decide)))) (by exact gv_u (by exact gu_isi T.i_tuple (.ty _) (by exact rfl) T.n_isinstance (by exact gv_u (by exact gu_var (by exact pv 0))) (pe_bltn (by exact rfl) T.n_tuple Boot.«tuple» rfl (by decide)))) (by exact rfl)) (by exact gw_or1 (by exact gt_cmpU (op_neD hr.units) os_neD (by exact gv_u (by exact gu_isi T.i_list (.ty _) (by exact rfl) T.n_isinstance (by exact gv_u (by exact gu_var (by exact pv 1))) (pe_bltn (by exact rfl) T.n_list Boot.«list» rfl (by decide)))) (by exact gv_u (by exact gu_isi T.i_list (.ty _) (by exact rfl) T.n_isinstance (by exact gv_u (by exact gu_var (by exact pv 0))) (pe_bltn (by exact rfl) T.n_list Boot.«list» rfl (by decide)))) (by exact rfl))))) (by exact gss_one (by exact gs_ret (by exact ge_p (by exact gu_bl)))) (by exact gss_nil)) (by exact gss_cons (by exact gs_if (by exact gt_cmpU (op_neD hr.units) os_neD (by exact gv_u (by exact gu_callB cr_len fs_len (by exact rfl) T.n_len Boot.«len» (by exact gvs_cons (by exact gv_u (by exact gu_var (by exact pv 0))) (by exact gps_nil)))) (by exact gv_u (by exact gu_callB cr_len fs_len (by exact rfl) T.n_len Boot.«len» (by exact gvs_cons (by exact gv_u (by exact gu_var (by exact pv 1))) (by exact gps_nil)))) (by exact rfl)) (by exact gss_one (by exact gs_ret (by exact ge_p (by exact gu_bl)))) (by exact gss_nil)) (by exact gss_cons (by exact gs_for (by exact hp) (by exact rfl) (by exact gi_zip (by exact rfl) T.n_zip (by exact ga_cons (by exact ge_o (by exact ge_p (by exact gu_var (by exact pv 0)))) (by exact ga_cons (by exact ge_o (by exact ge_p (by exact gu_var (by exact pv 1)))) (by exact ga_nil)))) (by exact gg_tup (by exact rfl) (by exact ggs_cons (by exact gg_name (by exact off_jOf rfl) (by exact sc_law_same.nd) (by exact rfl) (by first | exact Or.inl rfl | exact Or.inr rfl)) (by exact ggs_cons (by exact gg_name (by exact off_jOf rfl) (by exact sc_law_same.nd) (by exact rfl) (by first | exact Or.inl rfl | exact Or.inr rfl)) (by exact ggs_nil))) (by exact gOne_len (gOne_len (gNone_len)))) (by exact gss_one (by exact gs_if (by exact gt_not (by exact gt_u (by exact gu_call tk G0 (hr.mono (by omega)) (by exact rfl) T.g__law_same T.F_law_same.kp (b_law_same T) (by exact gus_cons (by exact gu_var (by exact pv 2)) (by exact gus_cons (by exact gu_var (by exact pv 3)) (by exact gps_nil)))))) (by exact gss_one (by exact gs_ret (by exact ge_p (by exact gu_bl)))) (by exact gss_nil)))) (by exact gss_one (by exact gs_ret (by exact ge_p (by exact gu_bl)))))))))))
theorem sc_law_sizes : FnScope ["_law_hand_here"] ["_law_hand_here"] (defScope (top 55)) := ⟨rfl, rfl, rfl, by decide +kernel, rfl, by decide +kernel, by decide +kernel⟩
theorem b_law_sizes {K : PySem.W.Frag} {mg : Str → Option Value} (T : Tx K mg) : Binds K T.fd_law_sizes ["_law_hand_here"] [] := T.F_law_sizes.bindsN fun _ _ _ _ _ _ us hl => match us, hl with | [_], _ => rfl
def B_law_sizes : MS :=
    mRet (mCall 2 [true] M_law_pick (aCons (oOwn 0) (aCons (eO (mP (pLst (psCons (pC (.int 2)) (psCons (pC (.int 3)) (psCons (pC (.int 4)) (psCons (pC (.int 5)) (psCons (pC (.int 6)) (psCons (pC (.int 6)) (psCons (pC (.int 10)) (psNil))))))))))) (aNil))))
def M_law_sizes : List D → Out := fnB 1 [true] B_law_sizes
theorem ok_law_sizes {P : Program} {w : World} {K : PySem.W.Frag} {mg : Str → Option Value} {base : Heap} (T : Tx K mg) : FnOk P w K mg base (L2.CX P w) 4 (He.fAd K ("_law_sizes", none)) T.fd_law_sizes ["_law_hand_here"] (spM K mg 1 [true] M_law_sizes) := by
  refine fn_mirD (b := B_law_sizes) (st := (top 55)) (N := ["_law_hand_here"]) (ps := ["_law_hand_here"]) (m := [true]) (k := 3) T.F_law_sizes sc_law_sizes (by decide) (by decide) ?_
  intro cdv A outer s H vs E hr
  have tk := takes_of (E := E) (X := cxOf (L2.CX P w) P w K mg base ["_law_hand_here"] "_law_sizes" (defScope (top 55)) (He.fAd K ("_law_sizes", none)) cdv A outer s H E) rfl rfl rfl rfl
  have hp := passes_of (X := cxOf (L2.CX P w) P w K mg base ["_law_hand_here"] "_law_sizes" (defScope (top 55)) (He.fAd K ("_law_sizes", none)) cdv A outer s H E) rfl
  have hu1 : (cxOf (L2.CX P w) P w K mg base ["_law_hand_here"] "_law_sizes" (defScope (top 55)) (He.fAd K ("_law_sizes", none)) cdv A outer s H E).A.units + 1 < cLine := Nat.lt_of_le_of_lt (Nat.add_le_add_left (by decide) _) hr.units
  exact gss_one (by exact gs_ret (by exact ge_call tk (ok_law_pick T) (hr.mono (by decide)) (by exact rfl) T.g__law_pick T.F_law_pick.kp (b_law_pick T) (by exact ga_cons (by exact go_own (by exact pv 0)) (by exact ga_cons (by exact ge_o (by exact ge_p (by exact gu_lst (by exact gus_cons (by exact gu_int) (by exact gus_cons (by exact gu_int) (by exact gus_cons (by exact gu_int) (by exact gus_cons (by exact gu_int) (by exact gus_cons (by exact gu_int) (by exact gus_cons (by exact gu_int) (by exact gus_cons (by exact gu_int) (by exact gps_nil))))))))))) (by exact ga_nil)))))
theorem sc_law_near : FnScope ["_law_plan", "_law_house", "_law_found", "_law_tie"] ["_law_plan", "_law_house"] (defScope (top 40)) := ⟨rfl, rfl, rfl, by decide +kernel, rfl, by decide +kernel, by decide +kernel⟩
theorem b_law_near {K : PySem.W.Frag} {mg : Str → Option Value} (T : Tx K mg) : Binds K T.fd_law_near ["_law_plan", "_law_house"] [] := T.F_law_near.bindsN fun _ _ _ _ _ _ us hl => match us, hl with | [_, _], _ => rfl
def B_law_near : MS :=
    mSeq (mAsg 2 (mOp2 fAdd (eO (mFrz (mLc [3] (iSeq (mP (pOp2 fAt (pVar 0) (pC (.int 1))))) (gSet 3) (tPu (pOp2 (eqD false) (pOp2 fAt (pVar 3) (pC (.int 0))) (pVar 1))) (mP (pOp2 fAt (pVar 3) (pC (.int 1))))))) (eO (mFrz (mLc [3] (iSeq (mP (pOp2 fAt (pVar 0) (pC (.int 1))))) (gSet 3) (tPu (pOp2 (eqD false) (pOp2 fAt (pVar 3) (pC (.int 1))) (pVar 1))) (mP (pOp2 fAt (pVar 3) (pC (.int 0)))))))))
    (mRet (mP (pFn fSortI (psCons (pVar 2) (psNil)))))
def M_law_near : List D → Out := fnB 4 [] B_law_near
theorem ok_law_near {P : Program} {w : World} {K : PySem.W.Frag} {mg : Str → Option Value} {base : Heap} (T : Tx K mg) : FnOk P w K mg base (L2.CX P w) 2 (He.fAd K ("_law_near", none)) T.fd_law_near ["_law_plan", "_law_house"] (spM K mg 2 [] M_law_near) := by
  refine fn_mirD (b := B_law_near) (st := (top 40)) (N := ["_law_plan", "_law_house", "_law_found", "_law_tie"]) (ps := ["_law_plan", "_law_house"]) (m := []) (k := 1) T.F_law_near sc_law_near (by decide) (by decide) ?_
  intro cdv A outer s H vs E hr
  have tk := takes_of (E := E) (X := cxOf (L2.CX P w) P w K mg base ["_law_plan", "_law_house", "_law_found", "_law_tie"] "_law_near" (defScope (top 40)) (He.fAd K ("_law_near", none)) cdv A outer s H E) rfl rfl rfl rfl
  have hp := passes_of (X := cxOf (L2.CX P w) P w K mg base ["_law_plan", "_law_house", "_law_found", "_law_tie"] "_law_near" (defScope (top 40)) (He.fAd K ("_law_near", none)) cdv A outer s H E) rfl
  have hu1 : (cxOf (L2.CX P w) P w K mg base ["_law_plan", "_law_house", "_law_found", "_law_tie"] "_law_near" (defScope (top 40)) (He.fAd K ("_law_near", none)) cdv A outer s H E).A.units + 1 < cLine := Nat.lt_of_le_of_lt (Nat.add_le_add_left (by decide) _) hr.units
  exact gss_cons (by exact gs_set (by exact off_jOf rfl) (by exact sc_law_near.nd) (by exact rfl) (by first | exact Or.inl rfl | exact Or.inr rfl) (by exact ge_bin or_add os_add (by exact ge_o (by exact ge_frz (by exact gf_lc (own := [("_law_tie", 3)]) (by exact rfl) (by exact sc_law_near.nd) (by exact gi_seq (by exact ge_p (by exact gu_ix (ix_at hu1) os_at (by exact gv_u (by exact gu_var (by exact pv 0))) (by exact gv_u (by exact gu_int))))) (by show BlkOk ["_law_plan", "_law_house", "_law_found", "_law_tie"] (defScope (top 40)) _ [("_law_tie", 3)]; exact ⟨rfl, by decide +kernel, by decide +kernel, by decide +kernel, by decide +kernel⟩) (fun s2 H2 C2 cl2 fp2 => by exact gg_name (by exact off_jOf rfl) (by exact sc_law_near.nd) (by exact rfl) (by first | exact Or.inl rfl | exact Or.inr rfl) (by first | exact .inl rfl | exact .inr rfl)) (fun s2 H2 C2 cl2 fp2 => by exact gts_one (by exact gt_cmpU (op_eqD hr.units) os_eqD (by exact gv_u (by exact gu_ix (ix_at hu1) os_at (by exact gv_u (by exact gu_var (by exact pv 3))) (by exact gv_u (by exact gu_int)))) (by exact gv_u (by exact gu_var (by exact pv 1))) (by exact rfl))) (fun s2 H2 C2 cl2 fp2 => by exact ge_p (by exact gu_ix (ix_at hu1) os_at (by exact gv_u (by exact gu_var (by exact pv 3))) (by exact gv_u (by exact gu_int)))) (by decide) (by intro v hv;  exact off_all (by decide) v hv)))) (by exact ge_o (by exact ge_frz (by exact gf_lc (own := [("_law_tie", 3)]) (by exact rfl) (by exact sc_law_near.nd) (by exact gi_seq (by exact ge_p (by exact gu_ix (ix_at hu1) os_at (by exact gv_u (by exact gu_var (by exact pv 0))) (by exact gv_u (by exact gu_int))))) (by show BlkOk ["_law_plan", "_law_house", "_law_found", "_law_tie"] (defScope (top 40)) _ [("_law_tie", 3)]; exact ⟨rfl, by decide +kernel, by decide +kernel, by decide +kernel, by decide +kernel⟩) (fun s2 H2 C2 cl2 fp2 => by exact gg_name (by exact off_jOf rfl) (by exact sc_law_near.nd) (by exact rfl) (by first | exact Or.inl rfl | exact Or.inr rfl) (by first | exact .inl rfl | exact .inr rfl)) (fun s2 H2 C2 cl2 fp2 => by exact gts_one (by exact gt_cmpU (op_eqD hr.units) os_eqD (by exact gv_u (by exact gu_ix (ix_at hu1) os_at (by exact gv_u (by exact gu_var (by exact pv 3))) (by exact gv_u (by exact gu_int)))) (by exact gv_u (by exact gu_var (by exact pv 1))) (by exact rfl))) (fun s2 H2 C2 cl2 fp2 => by exact ge_p (by exact gu_ix (ix_at hu1) os_at (by exact gv_u (by exact gu_var (by exact pv 3))) (by exact gv_u (by exact gu_int)))) (by decide) (by intro v hv;  exact off_all (by decide) v hv)))))) (by exact gss_one (by exact gs_ret (by exact ge_p (by exact gu_callB cr_sortedI ff_sortI.toS (by exact rfl) T.n_sorted Boot.«sorted» (by exact gvs_cons (by exact gv_u (by exact gu_var (by exact pv 2))) (by exact gps_nil))))))
theorem sc_law_at : FnScope ["_law_plan", "_law_one", "_law_other", "_law_k"] ["_law_plan", "_law_one", "_law_other"] (defScope (top 41)) := ⟨rfl, rfl, rfl, by decide +kernel, rfl, by decide +kernel, by decide +kernel⟩
theorem b_law_at {K : PySem.W.Frag} {mg : Str → Option Value} (T : Tx K mg) : Binds K T.fd_law_at ["_law_plan", "_law_one", "_law_other"] [] := T.F_law_at.bindsN fun _ _ _ _ _ _ us hl => match us, hl with | [_, _, _], _ => rfl
def B_law_at : MS :=
    mSeq (mFor (iRange1 (aCons (eO (mP (pFn fLen (psCons (pOp2 fAt (pVar 0) (pC (.int 1))) (psNil))))) (aNil))) (gSet 3) (mIf (tPu (pOp2 (eqD false) (pSl fSl (pOp2 fAt (pOp2 fAt (pVar 0) (pC (.int 1))) (pVar 3)) (pNoPart) (pPart (pC (.int 2)))) (pTup (psCons (pFn fMin2 (psCons (pVar 1) (psCons (pVar 2) (psNil)))) (psCons (pFn fMax2 (psCons (pVar 1) (psCons (pVar 2) (psNil)))) (psNil)))))) (mRet (mP (pVar 3))) (mNext)))
    (mRet (mP (pC .non)))
def M_law_at : List D → Out := fnB 4 [] B_law_at
theorem ok_law_at {P : Program} {w : World} {K : PySem.W.Frag} {mg : Str → Option Value} {base : Heap} (T : Tx K mg) : FnOk P w K mg base (L2.CX P w) 2 (He.fAd K ("_law_at", none)) T.fd_law_at ["_law_plan", "_law_one", "_law_other"] (spM K mg 3 [] M_law_at) := by
  refine fn_mirD (b := B_law_at) (st := (top 41)) (N := ["_law_plan", "_law_one", "_law_other", "_law_k"]) (ps := ["_law_plan", "_law_one", "_law_other"]) (m := []) (k := 1) T.F_law_at sc_law_at (by decide) (by decide) ?_
  intro cdv A outer s H vs E hr
  have tk := takes_of (E := E) (X := cxOf (L2.CX P w) P w K mg base ["_law_plan", "_law_one", "_law_other", "_law_k"] "_law_at" (defScope (top 41)) (He.fAd K ("_law_at", none)) cdv A outer s H E) rfl rfl rfl rfl
  have hp := passes_of (X := cxOf (L2.CX P w) P w K mg base ["_law_plan", "_law_one", "_law_other", "_law_k"] "_law_at" (defScope (top 41)) (He.fAd K ("_law_at", none)) cdv A outer s H E) rfl
  have hu1 : (cxOf (L2.CX P w) P w K mg base ["_law_plan", "_law_one", "_law_other", "_law_k"] "_law_at" (defScope (top 41)) (He.fAd K ("_law_at", none)) cdv A outer s H E).A.units + 1 < cLine := Nat.lt_of_le_of_lt (Nat.add_le_add_left (by decide) _) hr.units
  exact gss_cons (by exact gs_for (by exact hp) (by exact rfl) (by exact gi_range1 (by exact rfl) T.n_range (by exact ga_cons (by exact ge_o (by exact ge_p (by exact gu_callB cr_len fs_len (by exact rfl) T.n_len Boot.«len» (by exact gvs_cons (by exact gv_u (by exact gu_ix (ix_at hu1) os_at (by exact gv_u (by exact gu_var (by exact pv 0))) (by exact gv_u (by exact gu_int)))) (by exact gps_nil))))) (by exact ga_nil))) (by exact gg_name (by exact off_jOf rfl) (by exact sc_law_at.nd) (by exact rfl) (by first | exact Or.inl rfl | exact Or.inr rfl)) (by exact gss_one (by exact gs_if (by exact gt_cmpU (op_eqD hr.units) os_eqD (by exact gv_u (by exact gu_sl slr_seq ss_seq (by exact gv_u (by exact gu_ix (ix_at hu1) os_at (by exact gv_u (by exact gu_ix (ix_at hu1) os_at (by exact gv_u (by exact gu_var (by exact pv 0))) (by exact gv_u (by exact gu_int)))) (by exact gv_u (by exact gu_var (by exact pv 3))))) (by exact gpp_none) (by exact gpp_some (by exact gu_int)))) (by exact gv_u (by exact gu_tup (by exact gus_cons (by exact gu_callB (call_min2 rfl) fs_min2 (by exact rfl) T.n_min Boot.«min» (by exact gvs_cons (by exact gv_u (by exact gu_var (by exact pv 1))) (by exact gvs_cons (by exact gv_u (by exact gu_var (by exact pv 2))) (by exact gps_nil)))) (by exact gus_cons (by exact gu_callB (call_max2 rfl) fs_max2 (by exact rfl) T.n_max Boot.«max» (by exact gvs_cons (by exact gv_u (by exact gu_var (by exact pv 1))) (by exact gvs_cons (by exact gv_u (by exact gu_var (by exact pv 2))) (by exact gps_nil)))) (by exact gps_nil))))) (by exact rfl)) (by exact gss_one (by exact gs_ret (by exact ge_p (by exact gu_var (by exact pv 3))))) (by exact gss_nil)))) (by exact gss_one (by exact gs_ret (by exact ge_p (by exact gu_non))))
theorem sc_law_lets : FnScope ["_law_plan", "_law_one", "_law_other", "_law_tie"] ["_law_plan", "_law_one", "_law_other"] (defScope (top 42)) := ⟨rfl, rfl, rfl, by decide +kernel, rfl, by decide +kernel, by decide +kernel⟩
theorem b_law_lets {K : PySem.W.Frag} {mg : Str → Option Value} (T : Tx K mg) : Binds K T.fd_law_lets ["_law_plan", "_law_one", "_law_other"] [] := T.F_law_lets.bindsN fun _ _ _ _ _ _ us hl => match us, hl with | [_, _, _], _ => rfl
def B_law_lets : MS :=
    mSeq (mAsg 3 (mP (pOp2 fAt (pOp2 fAt (pVar 0) (pC (.int 1))) (pCall 3 M_law_at (psCons (pVar 0) (psCons (pVar 1) (psCons (pVar 2) (psNil))))))))
    (mRet (mP (pOp2 fAt (pVar 3) (pOp2 fAdd (pC (.int 2)) (pFn fInt (psCons (pOp2 fGt (pVar 1) (pVar 2)) (psNil)))))))
def M_law_lets : List D → Out := fnB 4 [] B_law_lets
theorem ok_law_lets {P : Program} {w : World} {K : PySem.W.Frag} {mg : Str → Option Value} {base : Heap} (T : Tx K mg) : FnOk P w K mg base (L2.CX P w) 3 (He.fAd K ("_law_lets", none)) T.fd_law_lets ["_law_plan", "_law_one", "_law_other"] (spM K mg 3 [] M_law_lets) := by
  refine fn_mirD (b := B_law_lets) (st := (top 42)) (N := ["_law_plan", "_law_one", "_law_other", "_law_tie"]) (ps := ["_law_plan", "_law_one", "_law_other"]) (m := []) (k := 2) T.F_law_lets sc_law_lets (by decide) (by decide) ?_
  intro cdv A outer s H vs E hr
  have tk := takes_of (E := E) (X := cxOf (L2.CX P w) P w K mg base ["_law_plan", "_law_one", "_law_other", "_law_tie"] "_law_lets" (defScope (top 42)) (He.fAd K ("_law_lets", none)) cdv A outer s H E) rfl rfl rfl rfl
  have hp := passes_of (X := cxOf (L2.CX P w) P w K mg base ["_law_plan", "_law_one", "_law_other", "_law_tie"] "_law_lets" (defScope (top 42)) (He.fAd K ("_law_lets", none)) cdv A outer s H E) rfl
  have hu1 : (cxOf (L2.CX P w) P w K mg base ["_law_plan", "_law_one", "_law_other", "_law_tie"] "_law_lets" (defScope (top 42)) (He.fAd K ("_law_lets", none)) cdv A outer s H E).A.units + 1 < cLine := Nat.lt_of_le_of_lt (Nat.add_le_add_left (by decide) _) hr.units
  exact gss_cons (by exact gs_set (by exact off_jOf rfl) (by exact sc_law_lets.nd) (by exact rfl) (by first | exact Or.inl rfl | exact Or.inr rfl) (by exact ge_p (by exact gu_ix (ix_at hu1) os_at (by exact gv_u (by exact gu_ix (ix_at hu1) os_at (by exact gv_u (by exact gu_var (by exact pv 0))) (by exact gv_u (by exact gu_int)))) (by exact gv_u (by exact gu_call tk (ok_law_at T) (hr.mono (by decide)) (by exact rfl) T.g__law_at T.F_law_at.kp (b_law_at T) (by exact gus_cons (by exact gu_var (by exact pv 0)) (by exact gus_cons (by exact gu_var (by exact pv 1)) (by exact gus_cons (by exact gu_var (by exact pv 2)) (by exact gps_nil))))))))) (by exact gss_one (by exact gs_ret (by exact ge_p (by exact gu_ix (ix_at hu1) os_at (by exact gv_u (by exact gu_var (by exact pv 3))) (by exact gv_u (by exact gu_bin or_add os_add (by exact gv_u (by exact gu_int)) (by exact gv_u (by exact gu_callTy call_int1 fs_int (by exact rfl) T.n_int Boot.«int» (by exact gvs_cons (by exact gv_u (by exact gu_cmp op_gt os_gt (by exact gv_u (by exact gu_var (by exact pv 1))) (by exact gv_u (by exact gu_var (by exact pv 2))) (by exact rfl))) (by exact gps_nil))))))))))
theorem sc_law_flow : FnScope ["_law_plan", "_law_stream", "_law_one", "_law_other", "_law_units_here"] ["_law_plan", "_law_stream", "_law_one", "_law_other"] (defScope (top 43)) := ⟨rfl, rfl, rfl, by decide +kernel, rfl, by decide +kernel, by decide +kernel⟩
theorem b_law_flow {K : PySem.W.Frag} {mg : Str → Option Value} (T : Tx K mg) : Binds K T.fd_law_flow ["_law_plan", "_law_stream", "_law_one", "_law_other"] [] := T.F_law_flow.bindsN fun _ _ _ _ _ _ us hl => match us, hl with | [_, _, _, _], _ => rfl
def B_law_flow : MS :=
    mSeq (mAsg 4 (mP (pOp2 fAt (pVar 1) (pCall 3 M_law_at (psCons (pVar 0) (psCons (pVar 2) (psCons (pVar 3) (psNil))))))))
    (mSeq (mIf (tPu (pOp2 fGt (pVar 2) (pVar 3))) (mAsg 4 (mP (pOp1 fNeg (pVar 4)))) (mNext))
    (mRet (mP (pVar 4))))
def M_law_flow : List D → Out := fnB 5 [] B_law_flow
theorem ok_law_flow {P : Program} {w : World} {K : PySem.W.Frag} {mg : Str → Option Value} {base : Heap} (T : Tx K mg) : FnOk P w K mg base (L2.CX P w) 3 (He.fAd K ("_law_flow", none)) T.fd_law_flow ["_law_plan", "_law_stream", "_law_one", "_law_other"] (spM K mg 4 [] M_law_flow) := by
  refine fn_mirD (b := B_law_flow) (st := (top 43)) (N := ["_law_plan", "_law_stream", "_law_one", "_law_other", "_law_units_here"]) (ps := ["_law_plan", "_law_stream", "_law_one", "_law_other"]) (m := []) (k := 2) T.F_law_flow sc_law_flow (by decide) (by decide) ?_
  intro cdv A outer s H vs E hr
  have tk := takes_of (E := E) (X := cxOf (L2.CX P w) P w K mg base ["_law_plan", "_law_stream", "_law_one", "_law_other", "_law_units_here"] "_law_flow" (defScope (top 43)) (He.fAd K ("_law_flow", none)) cdv A outer s H E) rfl rfl rfl rfl
  have hp := passes_of (X := cxOf (L2.CX P w) P w K mg base ["_law_plan", "_law_stream", "_law_one", "_law_other", "_law_units_here"] "_law_flow" (defScope (top 43)) (He.fAd K ("_law_flow", none)) cdv A outer s H E) rfl
  have hu1 : (cxOf (L2.CX P w) P w K mg base ["_law_plan", "_law_stream", "_law_one", "_law_other", "_law_units_here"] "_law_flow" (defScope (top 43)) (He.fAd K ("_law_flow", none)) cdv A outer s H E).A.units + 1 < cLine := Nat.lt_of_le_of_lt (Nat.add_le_add_left (by decide) _) hr.units
  exact gss_cons (by exact gs_set (by exact off_jOf rfl) (by exact sc_law_flow.nd) (by exact rfl) (by first | exact Or.inl rfl | exact Or.inr rfl) (by exact ge_p (by exact gu_ix (ix_at hu1) os_at (by exact gv_u (by exact gu_var (by exact pv 1))) (by exact gv_u (by exact gu_call tk (ok_law_at T) (hr.mono (by decide)) (by exact rfl) T.g__law_at T.F_law_at.kp (b_law_at T) (by exact gus_cons (by exact gu_var (by exact pv 0)) (by exact gus_cons (by exact gu_var (by exact pv 2)) (by exact gus_cons (by exact gu_var (by exact pv 3)) (by exact gps_nil))))))))) (by exact gss_cons (by exact gs_if (by exact gt_cmpU op_gt os_gt (by exact gv_u (by exact gu_var (by exact pv 2))) (by exact gv_u (by exact gu_var (by exact pv 3))) (by exact rfl)) (by exact gss_one (by exact gs_set (by exact off_jOf rfl) (by exact sc_law_flow.nd) (by exact rfl) (by first | exact Or.inl rfl | exact Or.inr rfl) (by exact ge_p (by exact gu_un un_neg us_neg (by exact gv_u (by exact gu_var (by exact pv 4))))))) (by exact gss_nil)) (by exact gss_one (by exact gs_ret (by exact ge_p (by exact gu_var (by exact pv 4))))))
theorem sc_law_room : FnScope ["_law_plan", "_law_stream", "_law_one", "_law_other"] ["_law_plan", "_law_stream", "_law_one", "_law_other"] (defScope (top 44)) := ⟨rfl, rfl, rfl, by decide +kernel, rfl, by decide +kernel, by decide +kernel⟩
theorem b_law_room {K : PySem.W.Frag} {mg : Str → Option Value} (T : Tx K mg) : Binds K T.fd_law_room ["_law_plan", "_law_stream", "_law_one", "_law_other"] [] := T.F_law_room.bindsN fun _ _ _ _ _ _ us hl => match us, hl with | [_, _, _, _], _ => rfl
def B_law_room : MS :=
    mRet (mP (pOp2 fSub (pCall 3 M_law_lets (psCons (pVar 0) (psCons (pVar 2) (psCons (pVar 3) (psNil))))) (pCall 4 M_law_flow (psCons (pVar 0) (psCons (pVar 1) (psCons (pVar 2) (psCons (pVar 3) (psNil))))))))
def M_law_room : List D → Out := fnB 4 [] B_law_room
theorem ok_law_room {P : Program} {w : World} {K : PySem.W.Frag} {mg : Str → Option Value} {base : Heap} (T : Tx K mg) : FnOk P w K mg base (L2.CX P w) 4 (He.fAd K ("_law_room", none)) T.fd_law_room ["_law_plan", "_law_stream", "_law_one", "_law_other"] (spM K mg 4 [] M_law_room) := by
  refine fn_mirD (b := B_law_room) (st := (top 44)) (N := ["_law_plan", "_law_stream", "_law_one", "_law_other"]) (ps := ["_law_plan", "_law_stream", "_law_one", "_law_other"]) (m := []) (k := 3) T.F_law_room sc_law_room (by decide) (by decide) ?_
  intro cdv A outer s H vs E hr
  have tk := takes_of (E := E) (X := cxOf (L2.CX P w) P w K mg base ["_law_plan", "_law_stream", "_law_one", "_law_other"] "_law_room" (defScope (top 44)) (He.fAd K ("_law_room", none)) cdv A outer s H E) rfl rfl rfl rfl
  have hp := passes_of (X := cxOf (L2.CX P w) P w K mg base ["_law_plan", "_law_stream", "_law_one", "_law_other"] "_law_room" (defScope (top 44)) (He.fAd K ("_law_room", none)) cdv A outer s H E) rfl
  have hu1 : (cxOf (L2.CX P w) P w K mg base ["_law_plan", "_law_stream", "_law_one", "_law_other"] "_law_room" (defScope (top 44)) (He.fAd K ("_law_room", none)) cdv A outer s H E).A.units + 1 < cLine := Nat.lt_of_le_of_lt (Nat.add_le_add_left (by decide) _) hr.units
  exact gss_one (by exact gs_ret (by exact ge_p (by exact gu_bin op_sub os_sub (by exact gv_u (by exact gu_call tk (ok_law_lets T) (hr.mono (by decide)) (by exact rfl) T.g__law_lets T.F_law_lets.kp (b_law_lets T) (by exact gus_cons (by exact gu_var (by exact pv 0)) (by exact gus_cons (by exact gu_var (by exact pv 2)) (by exact gus_cons (by exact gu_var (by exact pv 3)) (by exact gps_nil)))))) (by exact gv_u (by exact gu_call tk (ok_law_flow T) (hr.mono (by decide)) (by exact rfl) T.g__law_flow T.F_law_flow.kp (b_law_flow T) (by exact gus_cons (by exact gu_var (by exact pv 0)) (by exact gus_cons (by exact gu_var (by exact pv 1)) (by exact gus_cons (by exact gu_var (by exact pv 2)) (by exact gus_cons (by exact gu_var (by exact pv 3)) (by exact gps_nil))))))))))
theorem sc_law_reach : FnScope ["_law_plan", "_law_stream", "_law_begin", "_law_ahead", "_law_line", "_law_k", "_law_other"] ["_law_plan", "_law_stream", "_law_begin"] (defScope (top 47)) := ⟨rfl, rfl, rfl, by decide +kernel, rfl, by decide +kernel, by decide +kernel⟩
theorem b_law_reach {K : PySem.W.Frag} {mg : Str → Option Value} (T : Tx K mg) : Binds K T.fd_law_reach ["_law_plan", "_law_stream", "_law_begin"] [] := T.F_law_reach.bindsN fun _ _ _ _ _ _ us hl => match us, hl with | [_, _, _], _ => rfl
def B_law_reach : MS :=
    mSeq (mAsgB 3 (mDisp [(pVar 2, pC .non)]))
    (mSeq (mAsgB 4 (mLst (aCons (eO (mP (pVar 2))) (aNil))))
    (mSeq (mFor (iRange1 (aCons (eO (mP (pOp2 fAt (pVar 0) (pC (.int 0))))) (aNil))) (gSet 5) (mIf (tPu (pOp2 fLt (pVar 5) (pFn fLen (psCons (pVar' 4) (psNil))))) (mFor (iSeq (mP (pCall 2 M_law_near (psCons (pVar 0) (psCons (pOp2 fAt (pVar' 4) (pVar 5)) (psNil)))))) (gSet 6) (mIf (mAnd (tPu (pOp2 (fInF true) (pVar 6) (pVar' 3))) (tPu (pOp2 fGt (pCall 4 M_law_room (psCons (pVar 0) (psCons (pVar 1) (psCons (pOp2 fAt (pVar' 4) (pVar 5)) (psCons (pVar 6) (psNil)))))) (pC (.int 0))))) (mSeq (mSetI tabF0 3 [] (pFlat (pVar 6)) (mP (pOp2 fAt (pVar' 4) (pVar 5))))
    (mExpr (mMt fApp tabF0 4 [] (psCons (pVar 6) (psNil))))) (mNext))) (mNext)))
    (mThen 3 (mRet (mP (pVar 3))))))
def M_law_reach : List D → Out := fnB 7 [] B_law_reach
theorem ok_law_reach {P : Program} {w : World} {K : PySem.W.Frag} {mg : Str → Option Value} {base : Heap} (T : Tx K mg) : FnOk P w K mg base (L2.CX P w) 5 (He.fAd K ("_law_reach", none)) T.fd_law_reach ["_law_plan", "_law_stream", "_law_begin"] (spM K mg 3 [] M_law_reach) := by
  refine fn_mirD (b := B_law_reach) (st := (top 47)) (N := ["_law_plan", "_law_stream", "_law_begin", "_law_ahead", "_law_line", "_law_k", "_law_other"]) (ps := ["_law_plan", "_law_stream", "_law_begin"]) (m := []) (k := 4) T.F_law_reach sc_law_reach (by decide) (by decide) ?_
  intro cdv A outer s H vs E hr
  have tk := takes_of (E := E) (X := cxOf (L2.CX P w) P w K mg base ["_law_plan", "_law_stream", "_law_begin", "_law_ahead", "_law_line", "_law_k", "_law_other"] "_law_reach" (defScope (top 47)) (He.fAd K ("_law_reach", none)) cdv A outer s H E) rfl rfl rfl rfl
  have hp := passes_of (X := cxOf (L2.CX P w) P w K mg base ["_law_plan", "_law_stream", "_law_begin", "_law_ahead", "_law_line", "_law_k", "_law_other"] "_law_reach" (defScope (top 47)) (He.fAd K ("_law_reach", none)) cdv A outer s H E) rfl
  have hu1 : (cxOf (L2.CX P w) P w K mg base ["_law_plan", "_law_stream", "_law_begin", "_law_ahead", "_law_line", "_law_k", "_law_other"] "_law_reach" (defScope (top 47)) (He.fAd K ("_law_reach", none)) cdv A outer s H E).A.units + 1 < cLine := Nat.lt_of_le_of_lt (Nat.add_le_add_left (by decide) _) hr.units
  exact gss_cons (by exact gs_setB (by exact off_jOf rfl) (by exact sc_law_reach.nd) (by exact rfl) (by first | exact Or.inl rfl | exact Or.inr rfl) (by exact gf_disp (by exact DPs.cons (by exact gu_var (by exact pv 2)) (by exact gu_non) (by exact DPs.nil)) (by intro h; cases h) (by decide))) (by exact gss_cons (by exact gs_setB (by exact off_jOf rfl) (by exact sc_law_reach.nd) (by exact rfl) (by first | exact Or.inl rfl | exact Or.inr rfl) (by exact gf_lst (by exact ga_cons (by exact ge_o (by exact ge_p (by exact gu_var (by exact pv 2)))) (by exact ga_nil)))) (by exact gss_cons (by exact gs_for (by exact hp) (by exact rfl) (by exact gi_range1 (by exact rfl) T.n_range (by exact ga_cons (by exact ge_o (by exact ge_p (by exact gu_ix (ix_at hu1) os_at (by exact gv_u (by exact gu_var (by exact pv 0))) (by exact gv_u (by exact gu_int))))) (by exact ga_nil))) (by exact gg_name (by exact off_jOf rfl) (by exact sc_law_reach.nd) (by exact rfl) (by first | exact Or.inl rfl | exact Or.inr rfl)) (by exact gss_one (by exact gs_if (by exact gt_cmpU op_lt os_lt (by exact gv_u (by exact gu_var (by exact pv 5))) (by exact gv_u (by exact gu_callB cr_len fs_len (by exact rfl) T.n_len Boot.«len» (by exact gvs_cons (by exact gv_var (by exact pv 4)) (by exact gps_nil)))) (by exact rfl)) (by exact gss_one (by exact gs_for (by exact hp) (by exact rfl) (by exact gi_seq (by exact ge_p (by exact gu_call tk (ok_law_near T) (hr.mono (by decide)) (by exact rfl) T.g__law_near T.F_law_near.kp (b_law_near T) (by exact gus_cons (by exact gu_var (by exact pv 0)) (by exact gus_cons (by exact gu_ix (ix_at hu1) os_at (by exact gv_var (by exact pv 4)) (by exact gv_u (by exact gu_var (by exact pv 5)))) (by exact gps_nil)))))) (by exact gg_name (by exact off_jOf rfl) (by exact sc_law_reach.nd) (by exact rfl) (by first | exact Or.inl rfl | exact Or.inr rfl)) (by exact gss_one (by exact gs_if (by exact PW.pt (by exact gw_and (by exact gt_cmpU (op_notInA hu1) (os_in true) (by exact gv_u (by exact gu_var (by exact pv 6))) (by exact gv_var (by exact pv 3)) (by exact rfl)) (by exact gw_and1 (by exact gt_cmpU op_gt os_gt (by exact gv_u (by exact gu_call tk (ok_law_room T) (hr.mono (by decide)) (by exact rfl) T.g__law_room T.F_law_room.kp (b_law_room T) (by exact gus_cons (by exact gu_var (by exact pv 0)) (by exact gus_cons (by exact gu_var (by exact pv 1)) (by exact gus_cons (by exact gu_ix (ix_at hu1) os_at (by exact gv_var (by exact pv 4)) (by exact gv_u (by exact gu_var (by exact pv 5)))) (by exact gus_cons (by exact gu_var (by exact pv 6)) (by exact gps_nil))))))) (by exact gv_u (by exact gu_int)) (by exact rfl))))) (by exact gss_cons (by exact gs_setI hu1 (by exact gp_var (by exact pv 3)) (by exact gk_u (by exact gu_var (by exact pv 6))) (by exact ge_p (by exact gu_ix (ix_at hu1) os_at (by exact gv_var (by exact pv 4)) (by exact gv_u (by exact gu_var (by exact pv 5)))))) (by exact gss_one (by exact gs_expr (by exact ge_app (by exact gp_var (by exact pv 4)) (by exact gus_cons (by exact gu_var (by exact pv 6)) (by exact gps_nil)))))) (by exact gss_nil))))) (by exact gss_nil)))) (by exact gss_frz (by exact gss_one (by exact gs_ret (by exact ge_p (by exact gu_var (by exact pv 3))))))))
theorem sc_law_way : FnScope ["_law_plan", "_law_stream", "_law_begin", "_law_end", "_law_ahead", "_law_found", "_law_k"] ["_law_plan", "_law_stream", "_law_begin", "_law_end"] (defScope (top 48)) := ⟨rfl, rfl, rfl, by decide +kernel, rfl, by decide +kernel, by decide +kernel⟩
theorem b_law_way {K : PySem.W.Frag} {mg : Str → Option Value} (T : Tx K mg) : Binds K T.fd_law_way ["_law_plan", "_law_stream", "_law_begin", "_law_end"] [] := T.F_law_way.bindsN fun _ _ _ _ _ _ us hl => match us, hl with | [_, _, _, _], _ => rfl
def B_law_way : MS :=
    mSeq (mAsg 4 (mP (pCall 3 M_law_reach (psCons (pVar 0) (psCons (pVar 1) (psCons (pVar 2) (psNil)))))))
    (mSeq (mIf (tPu (pOp2 (fInF true) (pVar 3) (pVar 4))) (mRet (mP (pC .non))) (mNext))
    (mSeq (mAsgB 5 (mLst (aCons (eO (mP (pVar 3))) (aNil))))
    (mSeq (mFor (iRange1 (aCons (eO (mP (pOp2 fAt (pVar 0) (pC (.int 0))))) (aNil))) (gSet 6) (mIf (tPu (pOp2 fIsNot (pOp2 fAt (pVar 4) (pOp2 fAt (pVar' 5) (pOp1 fNeg (pC (.int 1))))) (pC .non))) (mExpr (mMt fApp tabF0 5 [] (psCons (pOp2 fAt (pVar 4) (pOp2 fAt (pVar' 5) (pOp1 fNeg (pC (.int 1))))) (psNil)))) (mNext)))
    (mRet (mFrz (mLc [6] (iRange1 (aCons (eO (mP (pFn fLen (psCons (pVar' 5) (psNil))))) (aNil))) (gSet 6) (mYes) (mP (pOp2 fAt (pVar' 5) (pOp2 fSub (pOp2 fSub (pFn fLen (psCons (pVar' 5) (psNil))) (pC (.int 1))) (pVar 6))))))))))
def M_law_way : List D → Out := fnB 7 [] B_law_way
theorem ok_law_way {P : Program} {w : World} {K : PySem.W.Frag} {mg : Str → Option Value} {base : Heap} (T : Tx K mg) : FnOk P w K mg base (L2.CX P w) 6 (He.fAd K ("_law_way", none)) T.fd_law_way ["_law_plan", "_law_stream", "_law_begin", "_law_end"] (spM K mg 4 [] M_law_way) := by
  refine fn_mirD (b := B_law_way) (st := (top 48)) (N := ["_law_plan", "_law_stream", "_law_begin", "_law_end", "_law_ahead", "_law_found", "_law_k"]) (ps := ["_law_plan", "_law_stream", "_law_begin", "_law_end"]) (m := []) (k := 5) T.F_law_way sc_law_way (by decide) (by decide) ?_
  intro cdv A outer s H vs E hr
  have tk := takes_of (E := E) (X := cxOf (L2.CX P w) P w K mg base ["_law_plan", "_law_stream", "_law_begin", "_law_end", "_law_ahead", "_law_found", "_law_k"] "_law_way" (defScope (top 48)) (He.fAd K ("_law_way", none)) cdv A outer s H E) rfl rfl rfl rfl
  have hp := passes_of (X := cxOf (L2.CX P w) P w K mg base ["_law_plan", "_law_stream", "_law_begin", "_law_end", "_law_ahead", "_law_found", "_law_k"] "_law_way" (defScope (top 48)) (He.fAd K ("_law_way", none)) cdv A outer s H E) rfl
  have hu1 : (cxOf (L2.CX P w) P w K mg base ["_law_plan", "_law_stream", "_law_begin", "_law_end", "_law_ahead", "_law_found", "_law_k"] "_law_way" (defScope (top 48)) (He.fAd K ("_law_way", none)) cdv A outer s H E).A.units + 1 < cLine := Nat.lt_of_le_of_lt (Nat.add_le_add_left (by decide) _) hr.units
  exact gss_cons (by exact gs_set (by exact off_jOf rfl) (by exact sc_law_way.nd) (by exact rfl) (by first | exact Or.inl rfl | exact Or.inr rfl) (by exact ge_p (by exact gu_call tk (ok_law_reach T) (hr.mono (by decide)) (by exact rfl) T.g__law_reach T.F_law_reach.kp (b_law_reach T) (by exact gus_cons (by exact gu_var (by exact pv 0)) (by exact gus_cons (by exact gu_var (by exact pv 1)) (by exact gus_cons (by exact gu_var (by exact pv 2)) (by exact gps_nil))))))) (by exact gss_cons (by exact gs_if (by exact gt_cmpU (op_notInA hu1) (os_in true) (by exact gv_u (by exact gu_var (by exact pv 3))) (by exact gv_u (by exact gu_var (by exact pv 4))) (by exact rfl)) (by exact gss_one (by exact gs_ret (by exact ge_p (by exact gu_non)))) (by exact gss_nil)) (by exact gss_cons (by exact gs_setB (by exact off_jOf rfl) (by exact sc_law_way.nd) (by exact rfl) (by first | exact Or.inl rfl | exact Or.inr rfl) (by exact gf_lst (by exact ga_cons (by exact ge_o (by exact ge_p (by exact gu_var (by exact pv 3)))) (by exact ga_nil)))) (by exact gss_cons (by exact gs_for (by exact hp) (by exact rfl) (by exact gi_range1 (by exact rfl) T.n_range (by exact ga_cons (by exact ge_o (by exact ge_p (by exact gu_ix (ix_at hu1) os_at (by exact gv_u (by exact gu_var (by exact pv 0))) (by exact gv_u (by exact gu_int))))) (by exact ga_nil))) (by exact gg_name (by exact off_jOf rfl) (by exact sc_law_way.nd) (by exact rfl) (by first | exact Or.inl rfl | exact Or.inr rfl)) (by exact gss_one (by exact gs_if (by exact gt_cmpU op_isNotA os_isNotA (by exact gv_u (by exact gu_ix (ix_at hu1) os_at (by exact gv_u (by exact gu_var (by exact pv 4))) (by exact gv_u (by exact gu_ix (ix_at hu1) os_at (by exact gv_var (by exact pv 5)) (by exact gv_u (by exact gu_un un_neg us_neg (by exact gv_u (by exact gu_int)))))))) (by exact gv_u (by exact gu_non)) (by exact rfl)) (by exact gss_one (by exact gs_expr (by exact ge_app (by exact gp_var (by exact pv 5)) (by exact gus_cons (by exact gu_ix (ix_at hu1) os_at (by exact gv_u (by exact gu_var (by exact pv 4))) (by exact gv_u (by exact gu_ix (ix_at hu1) os_at (by exact gv_var (by exact pv 5)) (by exact gv_u (by exact gu_un un_neg us_neg (by exact gv_u (by exact gu_int))))))) (by exact gps_nil))))) (by exact gss_nil)))) (by exact gss_one (by exact gs_ret (by exact ge_frz (by exact gf_lc (own := [("_law_k", 6)]) (by exact rfl) (by exact sc_law_way.nd) (by exact gi_range1 (by exact rfl) T.n_range (by exact ga_cons (by exact ge_o (by exact ge_p (by exact gu_callB cr_len fs_len (by exact rfl) T.n_len Boot.«len» (by exact gvs_cons (by exact gv_var (by exact pv 5)) (by exact gps_nil))))) (by exact ga_nil))) (by show BlkOk ["_law_plan", "_law_stream", "_law_begin", "_law_end", "_law_ahead", "_law_found", "_law_k"] (defScope (top 48)) _ [("_law_k", 6)]; exact ⟨rfl, by decide +kernel, by decide +kernel, by decide +kernel, by decide +kernel⟩) (fun s2 H2 C2 cl2 fp2 => by exact gg_name (by exact off_jOf rfl) (by exact sc_law_way.nd) (by exact rfl) (by first | exact Or.inl rfl | exact Or.inr rfl) (by first | exact .inl rfl | exact .inr rfl)) (fun s2 H2 C2 cl2 fp2 => by exact gts_nil) (fun s2 H2 C2 cl2 fp2 => by exact ge_p (by exact gu_ix (ix_at hu1) os_at (by exact gv_var (by exact pv 5)) (by exact gv_u (by exact gu_bin op_sub os_sub (by exact gv_u (by exact gu_bin op_sub os_sub (by exact gv_u (by exact gu_callB cr_len fs_len (by exact rfl) T.n_len Boot.«len» (by exact gvs_cons (by exact gv_var (by exact pv 5)) (by exact gps_nil)))) (by exact gv_u (by exact gu_int)))) (by exact gv_u (by exact gu_var (by exact pv 6))))))) (by decide) (by intro v hv;  exact off_all (by decide) v hv))))))))
theorem sc_law_sent : FnScope ["_law_plan", "_law_stream", "_law_houses", "_law_units_here", "_law_found", "_law_one", "_law_other", "_law_at_here"] ["_law_plan", "_law_stream", "_law_houses", "_law_units_here"] (defScope (top 49)) := ⟨rfl, rfl, rfl, by decide +kernel, rfl, by decide +kernel, by decide +kernel⟩
theorem b_law_sent {K : PySem.W.Frag} {mg : Str → Option Value} (T : Tx K mg) : Binds K T.fd_law_sent ["_law_plan", "_law_stream", "_law_houses", "_law_units_here"] [] := T.F_law_sent.bindsN fun _ _ _ _ _ _ us hl => match us, hl with | [_, _, _, _], _ => rfl
def B_law_sent : MS :=
    mSeq (mAsgB 4 (mFn fList (aCons (eO (mP (pVar 1))) (aNil))))
    (mSeq (mFor (iZipD (aCons (eO (mP (pVar 2))) (aCons (eO (mP (pSl fSl (pVar 2) (pPart (pC (.int 1))) (pNoPart)))) (aNil)))) (gUn (gOne (gSet 5) (gOne (gSet 6) (gNone)))) (mSeq (mAsg 7 (mP (pCall 3 M_law_at (psCons (pVar 0) (psCons (pVar 5) (psCons (pVar 6) (psNil)))))))
    (mSetI tabF0 4 [] (pFlat (pVar 7)) (mP (pOp2 fAdd (pOp2 fAt (pVar' 4) (pVar 7)) (pOp2 fMulA (pVar 3) (pOp2 fSub (pC (.int 1)) (pOp2 fMulA (pC (.int 2)) (pFn fInt (psCons (pOp2 fGt (pVar 5) (pVar 6)) (psNil)))))))))))
    (mRet (mP (pFn fTuple (psCons (pVar' 4) (psNil))))))
def M_law_sent : List D → Out := fnB 8 [] B_law_sent
theorem ok_law_sent {P : Program} {w : World} {K : PySem.W.Frag} {mg : Str → Option Value} {base : Heap} (T : Tx K mg) : FnOk P w K mg base (L2.CX P w) 3 (He.fAd K ("_law_sent", none)) T.fd_law_sent ["_law_plan", "_law_stream", "_law_houses", "_law_units_here"] (spM K mg 4 [] M_law_sent) := by
  refine fn_mirD (b := B_law_sent) (st := (top 49)) (N := ["_law_plan", "_law_stream", "_law_houses", "_law_units_here", "_law_found", "_law_one", "_law_other", "_law_at_here"]) (ps := ["_law_plan", "_law_stream", "_law_houses", "_law_units_here"]) (m := []) (k := 2) T.F_law_sent sc_law_sent (by decide) (by decide) ?_
  intro cdv A outer s H vs E hr
  have tk := takes_of (E := E) (X := cxOf (L2.CX P w) P w K mg base ["_law_plan", "_law_stream", "_law_houses", "_law_units_here", "_law_found", "_law_one", "_law_other", "_law_at_here"] "_law_sent" (defScope (top 49)) (He.fAd K ("_law_sent", none)) cdv A outer s H E) rfl rfl rfl rfl
  have hp := passes_of (X := cxOf (L2.CX P w) P w K mg base ["_law_plan", "_law_stream", "_law_houses", "_law_units_here", "_law_found", "_law_one", "_law_other", "_law_at_here"] "_law_sent" (defScope (top 49)) (He.fAd K ("_law_sent", none)) cdv A outer s H E) rfl
  have hu1 : (cxOf (L2.CX P w) P w K mg base ["_law_plan", "_law_stream", "_law_houses", "_law_units_here", "_law_found", "_law_one", "_law_other", "_law_at_here"] "_law_sent" (defScope (top 49)) (He.fAd K ("_law_sent", none)) cdv A outer s H E).A.units + 1 < cLine := Nat.lt_of_le_of_lt (Nat.add_le_add_left (by decide) _) hr.units
  exact gss_cons (by exact gs_setB (by exact off_jOf rfl) (by exact sc_law_sent.nd) (by exact rfl) (by first | exact Or.inl rfl | exact Or.inr rfl) (by exact gf_callTy call_list_of ff_list (by exact rfl) T.n_list Boot.«list» (by exact ga_cons (by exact ge_o (by exact ge_p (by exact gu_var (by exact pv 1)))) (by exact ga_nil)))) (by exact gss_cons (by exact gs_for (by exact hp) (by exact rfl) (by exact gi_zip (by exact rfl) T.n_zip (by exact ga_cons (by exact ge_o (by exact ge_p (by exact gu_var (by exact pv 2)))) (by exact ga_cons (by exact ge_o (by exact ge_p (by exact gu_sl slr_seq ss_seq (by exact gv_u (by exact gu_var (by exact pv 2))) (by exact gpp_some (by exact gu_int)) (by exact gpp_none)))) (by exact ga_nil)))) (by exact gg_tup (by exact rfl) (by exact ggs_cons (by exact gg_name (by exact off_jOf rfl) (by exact sc_law_sent.nd) (by exact rfl) (by first | exact Or.inl rfl | exact Or.inr rfl)) (by exact ggs_cons (by exact gg_name (by exact off_jOf rfl) (by exact sc_law_sent.nd) (by exact rfl) (by first | exact Or.inl rfl | exact Or.inr rfl)) (by exact ggs_nil))) (by exact gOne_len (gOne_len (gNone_len)))) (by exact gss_cons (by exact gs_set (by exact off_jOf rfl) (by exact sc_law_sent.nd) (by exact rfl) (by first | exact Or.inl rfl | exact Or.inr rfl) (by exact ge_p (by exact gu_call tk (ok_law_at T) (hr.mono (by decide)) (by exact rfl) T.g__law_at T.F_law_at.kp (b_law_at T) (by exact gus_cons (by exact gu_var (by exact pv 0)) (by exact gus_cons (by exact gu_var (by exact pv 5)) (by exact gus_cons (by exact gu_var (by exact pv 6)) (by exact gps_nil))))))) (by exact gss_one (by exact gs_setI hu1 (by exact gp_var (by exact pv 4)) (by exact gk_u (by exact gu_var (by exact pv 7))) (by exact ge_p (by exact gu_bin or_add os_add (by exact gv_u (by exact gu_ix (ix_at hu1) os_at (by exact gv_var (by exact pv 4)) (by exact gv_u (by exact gu_var (by exact pv 7))))) (by exact gv_u (by exact gu_bin or_mulA os_mulA (by exact gv_u (by exact gu_var (by exact pv 3))) (by exact gv_u (by exact gu_bin op_sub os_sub (by exact gv_u (by exact gu_int)) (by exact gv_u (by exact gu_bin or_mulA os_mulA (by exact gv_u (by exact gu_int)) (by exact gv_u (by exact gu_callTy call_int1 fs_int (by exact rfl) T.n_int Boot.«int» (by exact gvs_cons (by exact gv_u (by exact gu_cmp op_gt os_gt (by exact gv_u (by exact gu_var (by exact pv 5))) (by exact gv_u (by exact gu_var (by exact pv 6))) (by exact rfl))) (by exact gps_nil)))))))))))))))) (by exact gss_one (by exact gs_ret (by exact ge_p (by exact gu_callTy call_tuple_of fs_tuple (by exact rfl) T.n_tuple Boot.«tuple» (by exact gvs_cons (by exact gv_var (by exact pv 4)) (by exact gps_nil)))))))
theorem sc_law_least_room : FnScope ["_law_plan", "_law_stream", "_law_houses", "_law_one", "_law_other"] ["_law_plan", "_law_stream", "_law_houses"] (defScope (top 50)) := ⟨rfl, rfl, rfl, by decide +kernel, rfl, by decide +kernel, by decide +kernel⟩
theorem b_law_least_room {K : PySem.W.Frag} {mg : Str → Option Value} (T : Tx K mg) : Binds K T.fd_law_least_room ["_law_plan", "_law_stream", "_law_houses"] [] := T.F_law_least_room.bindsN fun _ _ _ _ _ _ us hl => match us, hl with | [_, _, _], _ => rfl
def B_law_least_room : MS :=
    mRet (mFn fMin1 (aCons (eO (mFrz (mLc [3, 4] (iZipD (aCons (eO (mP (pVar 2))) (aCons (eO (mP (pSl fSl (pVar 2) (pPart (pC (.int 1))) (pNoPart)))) (aNil)))) (gUn (gOne (gSet 3) (gOne (gSet 4) (gNone)))) (mYes) (mP (pCall 4 M_law_room (psCons (pVar 0) (psCons (pVar 1) (psCons (pVar 3) (psCons (pVar 4) (psNil)))))))))) (aNil)))
def M_law_least_room : List D → Out := fnB 5 [] B_law_least_room
theorem ok_law_least_room {P : Program} {w : World} {K : PySem.W.Frag} {mg : Str → Option Value} {base : Heap} (T : Tx K mg) : FnOk P w K mg base (L2.CX P w) 5 (He.fAd K ("_law_least_room", none)) T.fd_law_least_room ["_law_plan", "_law_stream", "_law_houses"] (spM K mg 3 [] M_law_least_room) := by
  refine fn_mirD (b := B_law_least_room) (st := (top 50)) (N := ["_law_plan", "_law_stream", "_law_houses", "_law_one", "_law_other"]) (ps := ["_law_plan", "_law_stream", "_law_houses"]) (m := []) (k := 4) T.F_law_least_room sc_law_least_room (by decide) (by decide) ?_
  intro cdv A outer s H vs E hr
  have tk := takes_of (E := E) (X := cxOf (L2.CX P w) P w K mg base ["_law_plan", "_law_stream", "_law_houses", "_law_one", "_law_other"] "_law_least_room" (defScope (top 50)) (He.fAd K ("_law_least_room", none)) cdv A outer s H E) rfl rfl rfl rfl
  have hp := passes_of (X := cxOf (L2.CX P w) P w K mg base ["_law_plan", "_law_stream", "_law_houses", "_law_one", "_law_other"] "_law_least_room" (defScope (top 50)) (He.fAd K ("_law_least_room", none)) cdv A outer s H E) rfl
  have hu1 : (cxOf (L2.CX P w) P w K mg base ["_law_plan", "_law_stream", "_law_houses", "_law_one", "_law_other"] "_law_least_room" (defScope (top 50)) (He.fAd K ("_law_least_room", none)) cdv A outer s H E).A.units + 1 < cLine := Nat.lt_of_le_of_lt (Nat.add_le_add_left (by decide) _) hr.units
  exact gss_one (by exact gs_ret (by exact ge_callB (cr_min rfl) fs_min1 (by exact rfl) T.n_min Boot.«min» (by exact ga_cons (by exact ge_o (by exact ge_frz (by exact gf_lc (own := [("_law_one", 3), ("_law_other", 4)]) (by exact rfl) (by exact sc_law_least_room.nd) (by exact gi_zip (by exact rfl) T.n_zip (by exact ga_cons (by exact ge_o (by exact ge_p (by exact gu_var (by exact pv 2)))) (by exact ga_cons (by exact ge_o (by exact ge_p (by exact gu_sl slr_seq ss_seq (by exact gv_u (by exact gu_var (by exact pv 2))) (by exact gpp_some (by exact gu_int)) (by exact gpp_none)))) (by exact ga_nil)))) (by show BlkOk ["_law_plan", "_law_stream", "_law_houses", "_law_one", "_law_other"] (defScope (top 50)) _ [("_law_one", 3), ("_law_other", 4)]; exact ⟨rfl, by decide +kernel, by decide +kernel, by decide +kernel, by decide +kernel⟩) (fun s2 H2 C2 cl2 fp2 => by exact gg_tup (by exact rfl) (by exact ggs_cons (by exact gg_name (by exact off_jOf rfl) (by exact sc_law_least_room.nd) (by exact rfl) (by first | exact Or.inl rfl | exact Or.inr rfl) (by first | exact .inl rfl | exact .inr rfl)) (by exact ggs_cons (by exact gg_name (by exact off_jOf rfl) (by exact sc_law_least_room.nd) (by exact rfl) (by first | exact Or.inl rfl | exact Or.inr rfl) (by first | exact .inl rfl | exact .inr rfl)) (by exact ggs_nil))) (by exact gOne_len (gOne_len (gNone_len)))) (fun s2 H2 C2 cl2 fp2 => by exact gts_nil) (fun s2 H2 C2 cl2 fp2 => by exact ge_p (by exact gu_call takes0 (ok_law_room T) (hr.mono (by decide)) (by exact rfl) T.g__law_room T.F_law_room.kp (b_law_room T) (by exact gus_cons (by exact gu_var (by exact pv 0)) (by exact gus_cons (by exact gu_var (by exact pv 1)) (by exact gus_cons (by exact gu_var (by exact pv 3)) (by exact gus_cons (by exact gu_var (by exact pv 4)) (by exact gps_nil))))))) (by decide) (by intro v hv;  exact off_all (by decide) v hv)))) (by exact ga_nil))))
theorem sc_law_greatest : FnScope ["_law_plan", "_law_stream", "_law_k", "_law_houses"] ["_law_plan"] (defScope (top 51)) := ⟨rfl, rfl, rfl, by decide +kernel, rfl, by decide +kernel, by decide +kernel⟩
theorem b_law_greatest {K : PySem.W.Frag} {mg : Str → Option Value} (T : Tx K mg) : Binds K T.fd_law_greatest ["_law_plan"] [] := T.F_law_greatest.bindsN fun _ _ _ _ _ _ us hl => match us, hl with | [_], _ => rfl
def B_law_greatest : MS :=
    mSeq (mAsg 1 (mP (pOp2 fMulA (pTup (psCons (pC (.int 0)) (psNil))) (pFn fLen (psCons (pOp2 fAt (pVar 0) (pC (.int 1))) (psNil))))))
    (mSeq (mFor (iRange1 (aCons (eO (mP (pC (.int 400)))) (aNil))) (gSet 2) (mSeq (mAsg 3 (mP (pCall 4 M_law_way (psCons (pVar 0) (psCons (pVar 1) (psCons (pOp2 fAt (pVar 0) (pC (.int 2))) (psCons (pOp2 fAt (pVar 0) (pC (.int 3))) (psNil))))))))
    (mSeq (mIf (tPu (pOp2 fIs (pVar 3) (pC .non))) (mBreak) (mNext))
    (mAsg 1 (mP (pCall 4 M_law_sent (psCons (pVar 0) (psCons (pVar 1) (psCons (pVar 3) (psCons (pCall 3 M_law_least_room (psCons (pVar 0) (psCons (pVar 1) (psCons (pVar 3) (psNil))))) (psNil)))))))))))
    (mRet (mP (pVar 1))))
def M_law_greatest : List D → Out := fnB 4 [] B_law_greatest
theorem ok_law_greatest {P : Program} {w : World} {K : PySem.W.Frag} {mg : Str → Option Value} {base : Heap} (T : Tx K mg) : FnOk P w K mg base (L2.CX P w) 7 (He.fAd K ("_law_greatest", none)) T.fd_law_greatest ["_law_plan"] (spM K mg 1 [] M_law_greatest) := by
  refine fn_mirD (b := B_law_greatest) (st := (top 51)) (N := ["_law_plan", "_law_stream", "_law_k", "_law_houses"]) (ps := ["_law_plan"]) (m := []) (k := 6) T.F_law_greatest sc_law_greatest (by decide) (by decide) ?_
  intro cdv A outer s H vs E hr
  have tk := takes_of (E := E) (X := cxOf (L2.CX P w) P w K mg base ["_law_plan", "_law_stream", "_law_k", "_law_houses"] "_law_greatest" (defScope (top 51)) (He.fAd K ("_law_greatest", none)) cdv A outer s H E) rfl rfl rfl rfl
  have hp := passes_of (X := cxOf (L2.CX P w) P w K mg base ["_law_plan", "_law_stream", "_law_k", "_law_houses"] "_law_greatest" (defScope (top 51)) (He.fAd K ("_law_greatest", none)) cdv A outer s H E) rfl
  have hu1 : (cxOf (L2.CX P w) P w K mg base ["_law_plan", "_law_stream", "_law_k", "_law_houses"] "_law_greatest" (defScope (top 51)) (He.fAd K ("_law_greatest", none)) cdv A outer s H E).A.units + 1 < cLine := Nat.lt_of_le_of_lt (Nat.add_le_add_left (by decide) _) hr.units
  exact gss_cons (by exact gs_set (by exact off_jOf rfl) (by exact sc_law_greatest.nd) (by exact rfl) (by first | exact Or.inl rfl | exact Or.inr rfl) (by exact ge_p (by exact gu_bin or_mulA os_mulA (by exact gv_u (by exact gu_tup (by exact gus_cons (by exact gu_int) (by exact gps_nil)))) (by exact gv_u (by exact gu_callB cr_len fs_len (by exact rfl) T.n_len Boot.«len» (by exact gvs_cons (by exact gv_u (by exact gu_ix (ix_at hu1) os_at (by exact gv_u (by exact gu_var (by exact pv 0))) (by exact gv_u (by exact gu_int)))) (by exact gps_nil))))))) (by exact gss_cons (by exact gs_for (by exact hp) (by exact rfl) (by exact gi_range1 (by exact rfl) T.n_range (by exact ga_cons (by exact ge_o (by exact ge_p (by exact gu_int))) (by exact ga_nil))) (by exact gg_name (by exact off_jOf rfl) (by exact sc_law_greatest.nd) (by exact rfl) (by first | exact Or.inl rfl | exact Or.inr rfl)) (by exact gss_cons (by exact gs_set (by exact off_jOf rfl) (by exact sc_law_greatest.nd) (by exact rfl) (by first | exact Or.inl rfl | exact Or.inr rfl) (by exact ge_p (by exact gu_call tk (ok_law_way T) (hr.mono (by decide)) (by exact rfl) T.g__law_way T.F_law_way.kp (b_law_way T) (by exact gus_cons (by exact gu_var (by exact pv 0)) (by exact gus_cons (by exact gu_var (by exact pv 1)) (by exact gus_cons (by exact gu_ix (ix_at hu1) os_at (by exact gv_u (by exact gu_var (by exact pv 0))) (by exact gv_u (by exact gu_int))) (by exact gus_cons (by exact gu_ix (ix_at hu1) os_at (by exact gv_u (by exact gu_var (by exact pv 0))) (by exact gv_u (by exact gu_int))) (by exact gps_nil)))))))) (by exact gss_cons (by exact gs_if (by exact gt_cmpU op_isA os_isA (by exact gv_u (by exact gu_var (by exact pv 3))) (by exact gv_u (by exact gu_non)) (by exact rfl)) (by exact gss_one (by exact gs_break)) (by exact gss_nil)) (by exact gss_one (by exact gs_set (by exact off_jOf rfl) (by exact sc_law_greatest.nd) (by exact rfl) (by first | exact Or.inl rfl | exact Or.inr rfl) (by exact ge_p (by exact gu_call tk (ok_law_sent T) (hr.mono (by decide)) (by exact rfl) T.g__law_sent T.F_law_sent.kp (b_law_sent T) (by exact gus_cons (by exact gu_var (by exact pv 0)) (by exact gus_cons (by exact gu_var (by exact pv 1)) (by exact gus_cons (by exact gu_var (by exact pv 3)) (by exact gus_cons (by exact gu_call tk (ok_law_least_room T) (hr.mono (by decide)) (by exact rfl) T.g__law_least_room T.F_law_least_room.kp (b_law_least_room T) (by exact gus_cons (by exact gu_var (by exact pv 0)) (by exact gus_cons (by exact gu_var (by exact pv 1)) (by exact gus_cons (by exact gu_var (by exact pv 3)) (by exact gps_nil))))) (by exact gps_nil)))))))))))) (by exact gss_one (by exact gs_ret (by exact ge_p (by exact gu_var (by exact pv 1))))))
theorem sc_law_ring : FnScope ["_law_hand_here", "_law_plan", "_law_stream", "_law_one", "_law_near_here", "_law_other", "_law_houses"] ["_law_hand_here", "_law_plan", "_law_stream"] (defScope (top 53)) := ⟨rfl, rfl, rfl, by decide +kernel, rfl, by decide +kernel, by decide +kernel⟩
theorem b_law_ring {K : PySem.W.Frag} {mg : Str → Option Value} (T : Tx K mg) : Binds K T.fd_law_ring ["_law_hand_here", "_law_plan", "_law_stream"] [] := T.F_law_ring.bindsN fun _ _ _ _ _ _ us hl => match us, hl with | [_, _, _], _ => rfl
def B_law_ring : MS :=
    mSeq (mAsg 3 (mCall 2 [true] M_law_take (aCons (oOwn 0) (aCons (eO (mP (pOp2 fAt (pVar 1) (pC (.int 0))))) (aNil)))))
    (mSeq (mAsg 4 (mFrz (mLc [5] (iSeq (mP (pCall 2 M_law_near (psCons (pVar 1) (psCons (pVar 3) (psNil)))))) (gSet 5) (tPu (pOp2 fGt (pCall 4 M_law_room (psCons (pVar 1) (psCons (pVar 2) (psCons (pVar 3) (psCons (pVar 5) (psNil)))))) (pC (.int 0)))) (mP (pVar 5)))))
    (mSeq (mIf (tPu (pOp2 (eqD false) (pFn fLen (psCons (pVar 4) (psNil))) (pC (.int 0)))) (mRet (mP (pC .non))) (mNext))
    (mSeq (mAsg 5 (mCall 2 [true] M_law_pick (aCons (oOwn 0) (aCons (eO (mP (pVar 4))) (aNil)))))
    (mSeq (mAsg 6 (mP (pCall 4 M_law_way (psCons (pVar 1) (psCons (pVar 2) (psCons (pVar 5) (psCons (pVar 3) (psNil))))))))
    (mSeq (mIf (mOr (tPu (pOp2 fIs (pVar 6) (pC .non))) (tPu (pOp2 fLt (pFn fLen (psCons (pVar 6) (psNil))) (pC (.int 3))))) (mRet (mP (pC .non))) (mNext))
    (mRet (mP (pOp2 fAdd (pLst (psCons (pVar 3) (psNil))) (pVar 6)))))))))
def M_law_ring : List D → Out := fnB 7 [true] B_law_ring
theorem ok_law_ring {P : Program} {w : World} {K : PySem.W.Frag} {mg : Str → Option Value} {base : Heap} (T : Tx K mg) : FnOk P w K mg base (L2.CX P w) 7 (He.fAd K ("_law_ring", none)) T.fd_law_ring ["_law_hand_here", "_law_plan", "_law_stream"] (spM K mg 3 [true] M_law_ring) := by
  refine fn_mirD (b := B_law_ring) (st := (top 53)) (N := ["_law_hand_here", "_law_plan", "_law_stream", "_law_one", "_law_near_here", "_law_other", "_law_houses"]) (ps := ["_law_hand_here", "_law_plan", "_law_stream"]) (m := [true]) (k := 6) T.F_law_ring sc_law_ring (by decide) (by decide) ?_
  intro cdv A outer s H vs E hr
  have tk := takes_of (E := E) (X := cxOf (L2.CX P w) P w K mg base ["_law_hand_here", "_law_plan", "_law_stream", "_law_one", "_law_near_here", "_law_other", "_law_houses"] "_law_ring" (defScope (top 53)) (He.fAd K ("_law_ring", none)) cdv A outer s H E) rfl rfl rfl rfl
  have hp := passes_of (X := cxOf (L2.CX P w) P w K mg base ["_law_hand_here", "_law_plan", "_law_stream", "_law_one", "_law_near_here", "_law_other", "_law_houses"] "_law_ring" (defScope (top 53)) (He.fAd K ("_law_ring", none)) cdv A outer s H E) rfl
  have hu1 : (cxOf (L2.CX P w) P w K mg base ["_law_hand_here", "_law_plan", "_law_stream", "_law_one", "_law_near_here", "_law_other", "_law_houses"] "_law_ring" (defScope (top 53)) (He.fAd K ("_law_ring", none)) cdv A outer s H E).A.units + 1 < cLine := Nat.lt_of_le_of_lt (Nat.add_le_add_left (by decide) _) hr.units
  exact gss_cons (by exact gs_set (by exact off_jOf rfl) (by exact sc_law_ring.nd) (by exact rfl) (by first | exact Or.inl rfl | exact Or.inr rfl) (by exact ge_call tk (ok_law_take T) (hr.mono (by decide)) (by exact rfl) T.g__law_take T.F_law_take.kp (b_law_take T) (by exact ga_cons (by exact go_own (by exact pv 0)) (by exact ga_cons (by exact ge_o (by exact ge_p (by exact gu_ix (ix_at hu1) os_at (by exact gv_u (by exact gu_var (by exact pv 1))) (by exact gv_u (by exact gu_int))))) (by exact ga_nil))))) (by exact gss_cons (by exact gs_setLc (own := [("_law_other", 5)]) (by exact rfl) (by exact sc_law_ring.nd) (by exact off_jOf rfl) (by exact rfl) (by exact rfl) (by exact sw_true rfl rfl rfl rfl) (by exact gi_seq (by exact ge_p (by exact gu_call tk (ok_law_near T) (hr.mono (by decide)) (by exact rfl) T.g__law_near T.F_law_near.kp (b_law_near T) (by exact gus_cons (by exact gu_var (by exact pv 1)) (by exact gus_cons (by exact gu_var (by exact pv 3)) (by exact gps_nil)))))) (by show BlkOk ["_law_hand_here", "_law_plan", "_law_stream", "_law_one", "_law_near_here", "_law_other", "_law_houses"] (defScope (top 53)) _ [("_law_other", 5)]; exact ⟨rfl, by decide +kernel, by decide +kernel, by decide +kernel, by decide +kernel⟩) (fun s2 H2 C2 cl2 fp2 => by exact gg_name (by exact off_jOf rfl) (by exact sc_law_ring.nd) (by exact rfl) (by first | exact Or.inl rfl | exact Or.inr rfl) (by first | exact .inl rfl | exact .inr rfl)) (fun s2 H2 C2 cl2 fp2 => by exact gts_one (by exact gt_cmpU op_gt os_gt (by exact gv_u (by exact gu_call takes0 (ok_law_room T) (hr.mono (by decide)) (by exact rfl) T.g__law_room T.F_law_room.kp (b_law_room T) (by exact gus_cons (by exact gu_var (by exact pv 1)) (by exact gus_cons (by exact gu_var (by exact pv 2)) (by exact gus_cons (by exact gu_var (by exact pv 3)) (by exact gus_cons (by exact gu_var (by exact pv 5)) (by exact gps_nil))))))) (by exact gv_u (by exact gu_int)) (by exact rfl))) (fun s2 H2 C2 cl2 fp2 => by exact ge_p (by exact gu_var (by exact pv 5))) (by decide) (by intro v hv;  exact off_all (by decide) v hv)) (by exact gss_cons (by exact gs_if (by exact gt_cmpU (op_eqD hr.units) os_eqD (by exact gv_u (by exact gu_callB cr_len fs_len (by exact rfl) T.n_len Boot.«len» (by exact gvs_cons (by exact gv_u (by exact gu_var (by exact pv 4))) (by exact gps_nil)))) (by exact gv_u (by exact gu_int)) (by exact rfl)) (by exact gss_one (by exact gs_ret (by exact ge_p (by exact gu_non)))) (by exact gss_nil)) (by exact gss_cons (by exact gs_set (by exact off_jOf rfl) (by exact sc_law_ring.nd) (by exact rfl) (by first | exact Or.inl rfl | exact Or.inr rfl) (by exact ge_call tk (ok_law_pick T) (hr.mono (by decide)) (by exact rfl) T.g__law_pick T.F_law_pick.kp (b_law_pick T) (by exact ga_cons (by exact go_own (by exact pv 0)) (by exact ga_cons (by exact ge_o (by exact ge_p (by exact gu_var (by exact pv 4)))) (by exact ga_nil))))) (by exact gss_cons (by exact gs_set (by exact off_jOf rfl) (by exact sc_law_ring.nd) (by exact rfl) (by first | exact Or.inl rfl | exact Or.inr rfl) (by exact ge_p (by exact gu_call tk (ok_law_way T) (hr.mono (by decide)) (by exact rfl) T.g__law_way T.F_law_way.kp (b_law_way T) (by exact gus_cons (by exact gu_var (by exact pv 1)) (by exact gus_cons (by exact gu_var (by exact pv 2)) (by exact gus_cons (by exact gu_var (by exact pv 5)) (by exact gus_cons (by exact gu_var (by exact pv 3)) (by exact gps_nil)))))))) (by exact gss_cons (by exact gs_if (by exact PW.pt (by exact gw_or (by exact gt_cmpU op_isA os_isA (by exact gv_u (by exact gu_var (by exact pv 6))) (by exact gv_u (by exact gu_non)) (by exact rfl)) (by exact gw_or1 (by exact gt_cmpU op_lt os_lt (by exact gv_u (by exact gu_callB cr_len fs_len (by exact rfl) T.n_len Boot.«len» (by exact gvs_cons (by exact gv_u (by exact gu_var (by exact pv 6))) (by exact gps_nil)))) (by exact gv_u (by exact gu_int)) (by exact rfl))))) (by exact gss_one (by exact gs_ret (by exact ge_p (by exact gu_non)))) (by exact gss_nil)) (by exact gss_one (by exact gs_ret (by exact ge_p (by exact gu_bin or_add os_add (by exact gv_u (by exact gu_lst (by exact gus_cons (by exact gu_var (by exact pv 3)) (by exact gps_nil)))) (by exact gv_u (by exact gu_var (by exact pv 6))))))))))))
theorem sc_law_some_stream : FnScope ["_law_hand_here", "_law_plan", "_law_stream", "_law_k", "_law_turn", "_law_houses"] ["_law_hand_here", "_law_plan"] (defScope (top 54)) := ⟨rfl, rfl, rfl, by decide +kernel, rfl, by decide +kernel, by decide +kernel⟩
theorem b_law_some_stream {K : PySem.W.Frag} {mg : Str → Option Value} (T : Tx K mg) : Binds K T.fd_law_some_stream ["_law_hand_here", "_law_plan"] [] := T.F_law_some_stream.bindsN fun _ _ _ _ _ _ us hl => match us, hl with | [_, _], _ => rfl
def B_law_some_stream : MS :=
    mSeq (mAsg 2 (mP (pOp2 fMulA (pTup (psCons (pC (.int 0)) (psNil))) (pFn fLen (psCons (pOp2 fAt (pVar 1) (pC (.int 1))) (psNil))))))
    (mSeq (mIf (mTest (mOp2 (eqD false) (eO (mCall 2 [true] M_law_take (aCons (oOwn 0) (aCons (eO (mP (pC (.int 4)))) (aNil))))) (eO (mP (pC (.int 0)))))) (mRet (mP (pCall 1 M_law_greatest (psCons (pVar 1) (psNil))))) (mNext))
    (mSeq (mFor (iRange1 (aCons (eO (mCall 2 [true] M_law_take (aCons (oOwn 0) (aCons (eO (mP (pC (.int 5)))) (aNil))))) (aNil))) (gSet 3) (mSeq (mAsg 4 (mCall 2 [true] M_law_take (aCons (oOwn 0) (aCons (eO (mP (pC (.int 5)))) (aNil)))))
    (mSeq (mAsg 5 (mP (pCall 4 M_law_way (psCons (pVar 1) (psCons (pVar 2) (psCons (pOp2 fAt (pVar 1) (pC (.int 2))) (psCons (pOp2 fAt (pVar 1) (pC (.int 3))) (psNil))))))))
    (mSeq (mIf (tPu (pOp2 (eqD false) (pVar 4) (pC (.int 0)))) (mAsg 5 (mP (pCall 4 M_law_way (psCons (pVar 1) (psCons (pVar 2) (psCons (pOp2 fAt (pVar 1) (pC (.int 3))) (psCons (pOp2 fAt (pVar 1) (pC (.int 2))) (psNil)))))))) (mNext))
    (mSeq (mIf (tPu (pOp2 fGt (pVar 4) (pC (.int 2)))) (mAsg 5 (mCall 3 [true] M_law_ring (aCons (oOwn 0) (aCons (eO (mP (pVar 1))) (aCons (eO (mP (pVar 2))) (aNil)))))) (mNext))
    (mIf (tPu (pOp2 fIsNot (pVar 5) (pC .non))) (mAsg 2 (mCall 4 [] M_law_sent (aCons (eO (mP (pVar 1))) (aCons (eO (mP (pVar 2))) (aCons (eO (mP (pVar 5))) (aCons (eO (mOp2 fAdd (eO (mP (pC (.int 1)))) (eO (mCall 2 [true] M_law_take (aCons (oOwn 0) (aCons (eO (mP (pCall 3 M_law_least_room (psCons (pVar 1) (psCons (pVar 2) (psCons (pVar 5) (psNil))))))) (aNil))))))) (aNil))))))) (mNext)))))))
    (mRet (mP (pVar 2)))))
def M_law_some_stream : List D → Out := fnB 6 [true] B_law_some_stream
theorem ok_law_some_stream {P : Program} {w : World} {K : PySem.W.Frag} {mg : Str → Option Value} {base : Heap} (T : Tx K mg) : FnOk P w K mg base (L2.CX P w) 8 (He.fAd K ("_law_some_stream", none)) T.fd_law_some_stream ["_law_hand_here", "_law_plan"] (spM K mg 2 [true] M_law_some_stream) := by
  refine fn_mirD (b := B_law_some_stream) (st := (top 54)) (N := ["_law_hand_here", "_law_plan", "_law_stream", "_law_k", "_law_turn", "_law_houses"]) (ps := ["_law_hand_here", "_law_plan"]) (m := [true]) (k := 7) T.F_law_some_stream sc_law_some_stream (by decide) (by decide) ?_
  intro cdv A outer s H vs E hr
  have tk := takes_of (E := E) (X := cxOf (L2.CX P w) P w K mg base ["_law_hand_here", "_law_plan", "_law_stream", "_law_k", "_law_turn", "_law_houses"] "_law_some_stream" (defScope (top 54)) (He.fAd K ("_law_some_stream", none)) cdv A outer s H E) rfl rfl rfl rfl
  have hp := passes_of (X := cxOf (L2.CX P w) P w K mg base ["_law_hand_here", "_law_plan", "_law_stream", "_law_k", "_law_turn", "_law_houses"] "_law_some_stream" (defScope (top 54)) (He.fAd K ("_law_some_stream", none)) cdv A outer s H E) rfl
  have hu1 : (cxOf (L2.CX P w) P w K mg base ["_law_hand_here", "_law_plan", "_law_stream", "_law_k", "_law_turn", "_law_houses"] "_law_some_stream" (defScope (top 54)) (He.fAd K ("_law_some_stream", none)) cdv A outer s H E).A.units + 1 < cLine := Nat.lt_of_le_of_lt (Nat.add_le_add_left (by decide) _) hr.units
  exact gss_cons (by exact gs_set (by exact off_jOf rfl) (by exact sc_law_some_stream.nd) (by exact rfl) (by first | exact Or.inl rfl | exact Or.inr rfl) (by exact ge_p (by exact gu_bin or_mulA os_mulA (by exact gv_u (by exact gu_tup (by exact gus_cons (by exact gu_int) (by exact gps_nil)))) (by exact gv_u (by exact gu_callB cr_len fs_len (by exact rfl) T.n_len Boot.«len» (by exact gvs_cons (by exact gv_u (by exact gu_ix (ix_at hu1) os_at (by exact gv_u (by exact gu_var (by exact pv 1))) (by exact gv_u (by exact gu_int)))) (by exact gps_nil))))))) (by exact gss_cons (by exact gs_if (by exact gt_cmp (op_eqD hr.units) os_eqD (by exact ge_o (by exact ge_call tk (ok_law_take T) (hr.mono (by decide)) (by exact rfl) T.g__law_take T.F_law_take.kp (b_law_take T) (by exact ga_cons (by exact go_own (by exact pv 0)) (by exact ga_cons (by exact ge_o (by exact ge_p (by exact gu_int))) (by exact ga_nil))))) (by exact ge_o (by exact ge_p (by exact gu_int))) (by exact rfl)) (by exact gss_one (by exact gs_ret (by exact ge_p (by exact gu_call tk (ok_law_greatest T) (hr.mono (by decide)) (by exact rfl) T.g__law_greatest T.F_law_greatest.kp (b_law_greatest T) (by exact gus_cons (by exact gu_var (by exact pv 1)) (by exact gps_nil)))))) (by exact gss_nil)) (by exact gss_cons (by exact gs_for (by exact hp) (by exact rfl) (by exact gi_range1 (by exact rfl) T.n_range (by exact ga_cons (by exact ge_o (by exact ge_call tk (ok_law_take T) (hr.mono (by decide)) (by exact rfl) T.g__law_take T.F_law_take.kp (b_law_take T) (by exact ga_cons (by exact go_own (by exact pv 0)) (by exact ga_cons (by exact ge_o (by exact ge_p (by exact gu_int))) (by exact ga_nil))))) (by exact ga_nil))) (by exact gg_name (by exact off_jOf rfl) (by exact sc_law_some_stream.nd) (by exact rfl) (by first | exact Or.inl rfl | exact Or.inr rfl)) (by exact gss_cons (by exact gs_set (by exact off_jOf rfl) (by exact sc_law_some_stream.nd) (by exact rfl) (by first | exact Or.inl rfl | exact Or.inr rfl) (by exact ge_call tk (ok_law_take T) (hr.mono (by decide)) (by exact rfl) T.g__law_take T.F_law_take.kp (b_law_take T) (by exact ga_cons (by exact go_own (by exact pv 0)) (by exact ga_cons (by exact ge_o (by exact ge_p (by exact gu_int))) (by exact ga_nil))))) (by exact gss_cons (by exact gs_set (by exact off_jOf rfl) (by exact sc_law_some_stream.nd) (by exact rfl) (by first | exact Or.inl rfl | exact Or.inr rfl) (by exact ge_p (by exact gu_call tk (ok_law_way T) (hr.mono (by decide)) (by exact rfl) T.g__law_way T.F_law_way.kp (b_law_way T) (by exact gus_cons (by exact gu_var (by exact pv 1)) (by exact gus_cons (by exact gu_var (by exact pv 2)) (by exact gus_cons (by exact gu_ix (ix_at hu1) os_at (by exact gv_u (by exact gu_var (by exact pv 1))) (by exact gv_u (by exact gu_int))) (by exact gus_cons (by exact gu_ix (ix_at hu1) os_at (by exact gv_u (by exact gu_var (by exact pv 1))) (by exact gv_u (by exact gu_int))) (by exact gps_nil)))))))) (by exact gss_cons (by exact gs_if (by exact gt_cmpU (op_eqD hr.units) os_eqD (by exact gv_u (by exact gu_var (by exact pv 4))) (by exact gv_u (by exact gu_int)) (by exact rfl)) (by exact gss_one (by exact gs_set (by exact off_jOf rfl) (by exact sc_law_some_stream.nd) (by exact rfl) (by first | exact Or.inl rfl | exact Or.inr rfl) (by exact ge_p (by exact gu_call tk (ok_law_way T) (hr.mono (by decide)) (by exact rfl) T.g__law_way T.F_law_way.kp (b_law_way T) (by exact gus_cons (by exact gu_var (by exact pv 1)) (by exact gus_cons (by exact gu_var (by exact pv 2)) (by exact gus_cons (by exact gu_ix (ix_at hu1) os_at (by exact gv_u (by exact gu_var (by exact pv 1))) (by exact gv_u (by exact gu_int))) (by exact gus_cons (by exact gu_ix (ix_at hu1) os_at (by exact gv_u (by exact gu_var (by exact pv 1))) (by exact gv_u (by exact gu_int))) (by exact gps_nil))))))))) (by exact gss_nil)) (by exact gss_cons (by exact gs_if (by exact gt_cmpU op_gt os_gt (by exact gv_u (by exact gu_var (by exact pv 4))) (by exact gv_u (by exact gu_int)) (by exact rfl)) (by exact gss_one (by exact gs_set (by exact off_jOf rfl) (by exact sc_law_some_stream.nd) (by exact rfl) (by first | exact Or.inl rfl | exact Or.inr rfl) (by exact ge_call tk (ok_law_ring T) (hr.mono (by decide)) (by exact rfl) T.g__law_ring T.F_law_ring.kp (b_law_ring T) (by exact ga_cons (by exact go_own (by exact pv 0)) (by exact ga_cons (by exact ge_o (by exact ge_p (by exact gu_var (by exact pv 1)))) (by exact ga_cons (by exact ge_o (by exact ge_p (by exact gu_var (by exact pv 2)))) (by exact ga_nil))))))) (by exact gss_nil)) (by exact gss_one (by exact gs_if (by exact gt_cmpU op_isNotA os_isNotA (by exact gv_u (by exact gu_var (by exact pv 5))) (by exact gv_u (by exact gu_non)) (by exact rfl)) (by exact gss_one (by exact gs_set (by exact off_jOf rfl) (by exact sc_law_some_stream.nd) (by exact rfl) (by first | exact Or.inl rfl | exact Or.inr rfl) (by exact ge_call tk (ok_law_sent T) (hr.mono (by decide)) (by exact rfl) T.g__law_sent T.F_law_sent.kp (b_law_sent T) (by exact ga_cons (by exact ge_o (by exact ge_p (by exact gu_var (by exact pv 1)))) (by exact ga_cons (by exact ge_o (by exact ge_p (by exact gu_var (by exact pv 2)))) (by exact ga_cons (by exact ge_o (by exact ge_p (by exact gu_var (by exact pv 5)))) (by exact ga_cons (by exact ge_o (by exact ge_bin or_add os_add (by exact ge_o (by exact ge_p (by exact gu_int))) (by exact ge_o (by exact ge_call tk (ok_law_take T) (hr.mono (by decide)) (by exact rfl) T.g__law_take T.F_law_take.kp (b_law_take T) (by exact ga_cons (by exact go_own (by exact pv 0)) (by exact ga_cons (by exact ge_o (by exact ge_p (by exact gu_call tk (ok_law_least_room T) (hr.mono (by decide)) (by exact rfl) T.g__law_least_room T.F_law_least_room.kp (b_law_least_room T) (by exact gus_cons (by exact gu_var (by exact pv 1)) (by exact gus_cons (by exact gu_var (by exact pv 2)) (by exact gus_cons (by exact gu_var (by exact pv 5)) (by exact gps_nil))))))) (by exact ga_nil))))))) (by exact ga_nil)))))))) (by exact gss_nil)))))))) (by exact gss_one (by exact gs_ret (by exact ge_p (by exact gu_var (by exact pv 2)))))))
theorem sc_law_odd : FnScope ["_law_hand_here", "_law_turn"] ["_law_hand_here"] (defScope (top 36)) := ⟨rfl, rfl, rfl, by decide +kernel, rfl, by decide +kernel, by decide +kernel⟩
theorem b_law_odd {K : PySem.W.Frag} {mg : Str → Option Value} (T : Tx K mg) : Binds K T.fd_law_odd ["_law_hand_here"] [] := T.F_law_odd.bindsN fun _ _ _ _ _ _ us hl => match us, hl with | [_], _ => rfl
def B_law_odd : MS :=
    mSeq (mAsg 1 (mCall 2 [true] M_law_take (aCons (oOwn 0) (aCons (eO (mP (pC (.int 19)))) (aNil)))))
    (mSeq (mIf (tPu (pOp2 fLt (pVar 1) (pC (.int 6)))) (mRet (mP (pOp2 fAt (pLst (psCons (pC .non) (psCons (pC (.bl true)) (psCons (pC (.bl false)) (psCons (pC (.str "")) (psCons (pC (.str "push")) (psCons (pC (.str "0")) (psNil)))))))) (pVar 1)))) (mNext))
    (mSeq (mIf (tPu (pOp2 fLt (pVar 1) (pC (.int 12)))) (mRet (mP (pOp2 fAt (pLst (psCons (pTup (psNil)) (psCons (pLst (psNil)) (psCons (pNewK) (psCons (pTup (psCons (pC (.int 0)) (psNil))) (psCons (pLst (psCons (pC (.int 0)) (psCons (pC (.int 0)) (psNil)))) (psCons (pTup (psCons (pTup (psNil)) (psNil))) (psNil)))))))) (pOp2 fSub (pVar 1) (pC (.int 6)))))) (mNext))
    (mSeq (mIf (tPu (pOp2 (eqD false) (pVar 1) (pC (.int 18)))) (mRet (mFrz (mMake "Web" 5 M_Web_init (aCons (eO (mP (pC (.int 2)))) (aCons (eO (mP (pTup (psNil)))) (aCons (eO (mP (pC (.int 0)))) (aCons (eO (mP (pC (.int 1)))) (aNil)))))))) (mNext))
    (mRet (mP (pOp2 fAt (pLst (psCons (pOp1 fNeg (pC (.int 1))) (psCons (pC (.int 11)) (psCons (pOp2 fSub (pOp2 fPow (pC (.int 10)) (pC (.int 20))) (pC (.int 1))) (psCons (pTup (psCons (pC (.int 0)) (psCons (pC (.int 1)) (psNil)))) (psCons (pTup (psCons (pC (.str "yes")) (psNil))) (psCons (pTup (psCons (pC (.int 0)) (psCons (pC (.int 1)) (psCons (pC (.int 5)) (psCons (pC (.int 5)) (psNil)))))) (psNil)))))))) (pOp2 fSub (pVar 1) (pC (.int 12)))))))))
def M_law_odd : List D → Out := fnB 2 [true] B_law_odd
theorem ok_law_odd {P : Program} {w : World} {K : PySem.W.Frag} {mg : Str → Option Value} {base : Heap} (T : Tx K mg) : FnOk P w K mg base (L2.CX P w) 7 (He.fAd K ("_law_odd", none)) T.fd_law_odd ["_law_hand_here"] (spM K mg 1 [true] M_law_odd) := by
  refine fn_mirD (b := B_law_odd) (st := (top 36)) (N := ["_law_hand_here", "_law_turn"]) (ps := ["_law_hand_here"]) (m := [true]) (k := 6) T.F_law_odd sc_law_odd (by decide) (by decide) ?_
  intro cdv A outer s H vs E hr
  have tk := takes_of (E := E) (X := cxOf (L2.CX P w) P w K mg base ["_law_hand_here", "_law_turn"] "_law_odd" (defScope (top 36)) (He.fAd K ("_law_odd", none)) cdv A outer s H E) rfl rfl rfl rfl
  have hp := passes_of (X := cxOf (L2.CX P w) P w K mg base ["_law_hand_here", "_law_turn"] "_law_odd" (defScope (top 36)) (He.fAd K ("_law_odd", none)) cdv A outer s H E) rfl
  have hu1 : (cxOf (L2.CX P w) P w K mg base ["_law_hand_here", "_law_turn"] "_law_odd" (defScope (top 36)) (He.fAd K ("_law_odd", none)) cdv A outer s H E).A.units + 1 < cLine := Nat.lt_of_le_of_lt (Nat.add_le_add_left (by decide) _) hr.units
  exact gss_cons (by exact gs_set (by exact off_jOf rfl) (by exact sc_law_odd.nd) (by exact rfl) (by first | exact Or.inl rfl | exact Or.inr rfl) (by exact ge_call tk (ok_law_take T) (hr.mono (by decide)) (by exact rfl) T.g__law_take T.F_law_take.kp (b_law_take T) (by exact ga_cons (by exact go_own (by exact pv 0)) (by exact ga_cons (by exact ge_o (by exact ge_p (by exact gu_int))) (by exact ga_nil))))) (by exact gss_cons (by exact gs_if (by exact gt_cmpU op_lt os_lt (by exact gv_u (by exact gu_var (by exact pv 1))) (by exact gv_u (by exact gu_int)) (by exact rfl)) (by exact gss_one (by exact gs_ret (by exact ge_p (by exact gu_ix (ix_at hu1) os_at (by exact gv_u (by exact gu_lst (by exact gus_cons (by exact gu_non) (by exact gus_cons (by exact gu_bl) (by exact gus_cons (by exact gu_bl) (by exact gus_cons (by exact gu_str) (by exact gus_cons (by exact gu_str) (by exact gus_cons (by exact gu_str) (by exact gps_nil))))))))) (by exact gv_u (by exact gu_var (by exact pv 1))))))) (by exact gss_nil)) (by exact gss_cons (by exact gs_if (by exact gt_cmpU op_lt os_lt (by exact gv_u (by exact gu_var (by exact pv 1))) (by exact gv_u (by exact gu_int)) (by exact rfl)) (by exact gss_one (by exact gs_ret (by exact ge_p (by exact gu_ix (ix_at hu1) os_at (by exact gv_u (by exact gu_lst (by exact gus_cons (by exact gu_tup (by exact gps_nil)) (by exact gus_cons (by exact gu_lst (by exact gps_nil)) (by exact gus_cons (by exact gu_dnewK) (by exact gus_cons (by exact gu_tup (by exact gus_cons (by exact gu_int) (by exact gps_nil))) (by exact gus_cons (by exact gu_lst (by exact gus_cons (by exact gu_int) (by exact gus_cons (by exact gu_int) (by exact gps_nil)))) (by exact gus_cons (by exact gu_tup (by exact gus_cons (by exact gu_tup (by exact gps_nil)) (by exact gps_nil))) (by exact gps_nil))))))))) (by exact gv_u (by exact gu_bin op_sub os_sub (by exact gv_u (by exact gu_var (by exact pv 1))) (by exact gv_u (by exact gu_int)))))))) (by exact gss_nil)) (by exact gss_cons (by exact gs_if (by exact gt_cmpU (op_eqD hr.units) os_eqD (by exact gv_u (by exact gu_var (by exact pv 1))) (by exact gv_u (by exact gu_int)) (by exact rfl)) (by exact gss_one (by exact gs_ret (by exact ge_frz (by exact gf_make tk T.mk_Web (ok_Web_init T) (hr.mono (by decide)) (by exact rfl) T.g_Web (b_Web_init T) (by exact ga_cons (by exact ge_o (by exact ge_p (by exact gu_int))) (by exact ga_cons (by exact ge_o (by exact ge_p (by exact gu_tup (by exact gps_nil)))) (by exact ga_cons (by exact ge_o (by exact ge_p (by exact gu_int))) (by exact ga_cons (by exact ge_o (by exact ge_p (by exact gu_int))) (by exact ga_nil))))))))) (by exact gss_nil)) (by exact gss_one (by exact gs_ret (by exact ge_p (by exact gu_ix (ix_at hu1) os_at (by exact gv_u (by exact gu_lst (by exact gus_cons (by exact gu_un un_neg us_neg (by exact gv_u (by exact gu_int))) (by exact gus_cons (by exact gu_int) (by exact gus_cons (by exact gu_bin op_sub os_sub (by exact gv_u (by exact gu_bin op_pow os_pow (by exact gv_u (by exact gu_int)) (by exact gv_u (by exact gu_int)))) (by exact gv_u (by exact gu_int))) (by exact gus_cons (by exact gu_tup (by exact gus_cons (by exact gu_int) (by exact gus_cons (by exact gu_int) (by exact gps_nil)))) (by exact gus_cons (by exact gu_tup (by exact gus_cons (by exact gu_str) (by exact gps_nil))) (by exact gus_cons (by exact gu_tup (by exact gus_cons (by exact gu_int) (by exact gus_cons (by exact gu_int) (by exact gus_cons (by exact gu_int) (by exact gus_cons (by exact gu_int) (by exact gps_nil)))))) (by exact gps_nil))))))))) (by exact gv_u (by exact gu_bin op_sub os_sub (by exact gv_u (by exact gu_var (by exact pv 1))) (by exact gv_u (by exact gu_int)))))))))))
theorem sc_law_bent : FnScope ["_law_hand_here", "_law_plan", "_law_stream", "_law_turn", "_law_at_here", "_law_tie", "_law_menu"] ["_law_hand_here", "_law_plan", "_law_stream"] (defScope (top 56)) := ⟨rfl, rfl, rfl, by decide +kernel, rfl, by decide +kernel, by decide +kernel⟩
theorem b_law_bent {K : PySem.W.Frag} {mg : Str → Option Value} (T : Tx K mg) : Binds K T.fd_law_bent ["_law_hand_here", "_law_plan", "_law_stream"] [] := T.F_law_bent.bindsN fun _ _ _ _ _ _ us hl => match us, hl with | [_, _, _], _ => rfl
def B_law_bent : MS :=
    mSeq (mAsg 3 (mCall 2 [true] M_law_take (aCons (oOwn 0) (aCons (eO (mP (pC (.int 8)))) (aNil)))))
    (mSeq (mIf (mOr (tPu (pOp2 (eqD false) (pVar 3) (pC (.int 0)))) (tPu (pOp2 (eqD false) (pFn fLen (psCons (pVar 2) (psNil))) (pC (.int 0))))) (mRet (mCall 2 [true] M_law_pick (aCons (oOwn 0) (aCons (eO (mLst (aCons (eO (mP (pFn fList (psCons (pVar 2) (psNil))))) (aCons (eO (mCall 1 [true] M_law_odd (aCons (oOwn 0) (aNil)))) (aCons (eO (mP (pOp2 fAdd (pVar 2) (pTup (psCons (pC (.int 0)) (psNil)))))) (aCons (eO (mP (pSl fSl (pVar 2) (pPart (pC (.int 1))) (pNoPart)))) (aCons (eO (mP (pC .non))) (aCons (eO (mP (pTup (psNil)))) (aNil))))))))) (aNil))))) (mNext))
    (mSeq (mAsg 4 (mCall 2 [true] M_law_take (aCons (oOwn 0) (aCons (eO (mP (pFn fLen (psCons (pVar 2) (psNil))))) (aNil)))))
    (mSeq (mAsg 5 (mP (pOp2 fAt (pOp2 fAt (pVar 1) (pC (.int 1))) (pVar 4))))
    (mSeq (mAsg 6 (mLst (aCons (eO (mP (pOp2 fAdd (pOp2 fAt (pVar 2) (pVar 4)) (pC (.int 1))))) (aCons (eO (mP (pOp2 fSub (pOp2 fAt (pVar 2) (pVar 4)) (pC (.int 1))))) (aCons (eO (mP (pOp2 fAt (pVar 5) (pC (.int 2))))) (aCons (eO (mP (pOp2 fAdd (pOp2 fAt (pVar 5) (pC (.int 2))) (pC (.int 1))))) (aCons (eO (mP (pOp1 fNeg (pOp2 fAt (pVar 5) (pC (.int 3)))))) (aCons (eO (mP (pOp2 fSub (pOp1 fNeg (pOp2 fAt (pVar 5) (pC (.int 3)))) (pC (.int 1))))) (aCons (eO (mP (pC (.int 0)))) (aCons (eO (mP (pC (.bl true)))) (aCons (eO (mP (pC .non))) (aCons (eO (mCall 1 [true] M_law_odd (aCons (oOwn 0) (aNil)))) (aNil)))))))))))))
    (mRet (mOp2 fAdd (eO (mOp2 fAdd (eO (mP (pSl fSl (pVar 2) (pNoPart) (pPart (pVar 4))))) (eO (mTup (aCons (eO (mCall 2 [true] M_law_pick (aCons (oOwn 0) (aCons (eO (mP (pVar 6))) (aNil))))) (aNil)))))) (eO (mP (pSl fSl (pVar 2) (pPart (pOp2 fAdd (pVar 4) (pC (.int 1)))) (pNoPart))))))))))
def M_law_bent : List D → Out := fnB 7 [true] B_law_bent
theorem ok_law_bent {P : Program} {w : World} {K : PySem.W.Frag} {mg : Str → Option Value} {base : Heap} (T : Tx K mg) : FnOk P w K mg base (L2.CX P w) 8 (He.fAd K ("_law_bent", none)) T.fd_law_bent ["_law_hand_here", "_law_plan", "_law_stream"] (spM K mg 3 [true] M_law_bent) := by
  refine fn_mirD (b := B_law_bent) (st := (top 56)) (N := ["_law_hand_here", "_law_plan", "_law_stream", "_law_turn", "_law_at_here", "_law_tie", "_law_menu"]) (ps := ["_law_hand_here", "_law_plan", "_law_stream"]) (m := [true]) (k := 7) T.F_law_bent sc_law_bent (by decide) (by decide) ?_
  intro cdv A outer s H vs E hr
  have tk := takes_of (E := E) (X := cxOf (L2.CX P w) P w K mg base ["_law_hand_here", "_law_plan", "_law_stream", "_law_turn", "_law_at_here", "_law_tie", "_law_menu"] "_law_bent" (defScope (top 56)) (He.fAd K ("_law_bent", none)) cdv A outer s H E) rfl rfl rfl rfl
  have hp := passes_of (X := cxOf (L2.CX P w) P w K mg base ["_law_hand_here", "_law_plan", "_law_stream", "_law_turn", "_law_at_here", "_law_tie", "_law_menu"] "_law_bent" (defScope (top 56)) (He.fAd K ("_law_bent", none)) cdv A outer s H E) rfl
  have hu1 : (cxOf (L2.CX P w) P w K mg base ["_law_hand_here", "_law_plan", "_law_stream", "_law_turn", "_law_at_here", "_law_tie", "_law_menu"] "_law_bent" (defScope (top 56)) (He.fAd K ("_law_bent", none)) cdv A outer s H E).A.units + 1 < cLine := Nat.lt_of_le_of_lt (Nat.add_le_add_left (by decide) _) hr.units
  exact gss_cons (by exact gs_set (by exact off_jOf rfl) (by exact sc_law_bent.nd) (by exact rfl) (by first | exact Or.inl rfl | exact Or.inr rfl) (by exact ge_call tk (ok_law_take T) (hr.mono (by decide)) (by exact rfl) T.g__law_take T.F_law_take.kp (b_law_take T) (by exact ga_cons (by exact go_own (by exact pv 0)) (by exact ga_cons (by exact ge_o (by exact ge_p (by exact gu_int))) (by exact ga_nil))))) (by exact gss_cons (by exact gs_if (by exact PW.pt (by exact gw_or (by exact gt_cmpU (op_eqD hr.units) os_eqD (by exact gv_u (by exact gu_var (by exact pv 3))) (by exact gv_u (by exact gu_int)) (by exact rfl)) (by exact gw_or1 (by exact gt_cmpU (op_eqD hr.units) os_eqD (by exact gv_u (by exact gu_callB cr_len fs_len (by exact rfl) T.n_len Boot.«len» (by exact gvs_cons (by exact gv_u (by exact gu_var (by exact pv 2))) (by exact gps_nil)))) (by exact gv_u (by exact gu_int)) (by exact rfl))))) (by exact gss_one (by exact gs_ret (by exact ge_call tk (ok_law_pick T) (hr.mono (by decide)) (by exact rfl) T.g__law_pick T.F_law_pick.kp (b_law_pick T) (by exact ga_cons (by exact go_own (by exact pv 0)) (by exact ga_cons (by exact ge_o (by exact ge_lst (by exact ga_cons (by exact ge_o (by exact ge_p (by exact gu_callTy call_list_of ff_list.toS (by exact rfl) T.n_list Boot.«list» (by exact gvs_cons (by exact gv_u (by exact gu_var (by exact pv 2))) (by exact gps_nil))))) (by exact ga_cons (by exact ge_o (by exact ge_call tk (ok_law_odd T) (hr.mono (by decide)) (by exact rfl) T.g__law_odd T.F_law_odd.kp (b_law_odd T) (by exact ga_cons (by exact go_own (by exact pv 0)) (by exact ga_nil)))) (by exact ga_cons (by exact ge_o (by exact ge_p (by exact gu_bin or_add os_add (by exact gv_u (by exact gu_var (by exact pv 2))) (by exact gv_u (by exact gu_tup (by exact gus_cons (by exact gu_int) (by exact gps_nil))))))) (by exact ga_cons (by exact ge_o (by exact ge_p (by exact gu_sl slr_seq ss_seq (by exact gv_u (by exact gu_var (by exact pv 2))) (by exact gpp_some (by exact gu_int)) (by exact gpp_none)))) (by exact ga_cons (by exact ge_o (by exact ge_p (by exact gu_non))) (by exact ga_cons (by exact ge_o (by exact ge_p (by exact gu_tup (by exact gps_nil)))) (by exact ga_nil))))))))) (by exact ga_nil)))))) (by exact gss_nil)) (by exact gss_cons (by exact gs_set (by exact off_jOf rfl) (by exact sc_law_bent.nd) (by exact rfl) (by first | exact Or.inl rfl | exact Or.inr rfl) (by exact ge_call tk (ok_law_take T) (hr.mono (by decide)) (by exact rfl) T.g__law_take T.F_law_take.kp (b_law_take T) (by exact ga_cons (by exact go_own (by exact pv 0)) (by exact ga_cons (by exact ge_o (by exact ge_p (by exact gu_callB cr_len fs_len (by exact rfl) T.n_len Boot.«len» (by exact gvs_cons (by exact gv_u (by exact gu_var (by exact pv 2))) (by exact gps_nil))))) (by exact ga_nil))))) (by exact gss_cons (by exact gs_set (by exact off_jOf rfl) (by exact sc_law_bent.nd) (by exact rfl) (by first | exact Or.inl rfl | exact Or.inr rfl) (by exact ge_p (by exact gu_ix (ix_at hu1) os_at (by exact gv_u (by exact gu_ix (ix_at hu1) os_at (by exact gv_u (by exact gu_var (by exact pv 1))) (by exact gv_u (by exact gu_int)))) (by exact gv_u (by exact gu_var (by exact pv 4)))))) (by exact gss_cons (by exact gs_set (by exact off_jOf rfl) (by exact sc_law_bent.nd) (by exact rfl) (by first | exact Or.inl rfl | exact Or.inr rfl) (by exact ge_lst (by exact ga_cons (by exact ge_o (by exact ge_p (by exact gu_bin or_add os_add (by exact gv_u (by exact gu_ix (ix_at hu1) os_at (by exact gv_u (by exact gu_var (by exact pv 2))) (by exact gv_u (by exact gu_var (by exact pv 4))))) (by exact gv_u (by exact gu_int))))) (by exact ga_cons (by exact ge_o (by exact ge_p (by exact gu_bin op_sub os_sub (by exact gv_u (by exact gu_ix (ix_at hu1) os_at (by exact gv_u (by exact gu_var (by exact pv 2))) (by exact gv_u (by exact gu_var (by exact pv 4))))) (by exact gv_u (by exact gu_int))))) (by exact ga_cons (by exact ge_o (by exact ge_p (by exact gu_ix (ix_at hu1) os_at (by exact gv_u (by exact gu_var (by exact pv 5))) (by exact gv_u (by exact gu_int))))) (by exact ga_cons (by exact ge_o (by exact ge_p (by exact gu_bin or_add os_add (by exact gv_u (by exact gu_ix (ix_at hu1) os_at (by exact gv_u (by exact gu_var (by exact pv 5))) (by exact gv_u (by exact gu_int)))) (by exact gv_u (by exact gu_int))))) (by exact ga_cons (by exact ge_o (by exact ge_p (by exact gu_un un_neg us_neg (by exact gv_u (by exact gu_ix (ix_at hu1) os_at (by exact gv_u (by exact gu_var (by exact pv 5))) (by exact gv_u (by exact gu_int))))))) (by exact ga_cons (by exact ge_o (by exact ge_p (by exact gu_bin op_sub os_sub (by exact gv_u (by exact gu_un un_neg us_neg (by exact gv_u (by exact gu_ix (ix_at hu1) os_at (by exact gv_u (by exact gu_var (by exact pv 5))) (by exact gv_u (by exact gu_int)))))) (by exact gv_u (by exact gu_int))))) (by exact ga_cons (by exact ge_o (by exact ge_p (by exact gu_int))) (by exact ga_cons (by exact ge_o (by exact ge_p (by exact gu_bl))) (by exact ga_cons (by exact ge_o (by exact ge_p (by exact gu_non))) (by exact ga_cons (by exact ge_o (by exact ge_call tk (ok_law_odd T) (hr.mono (by decide)) (by exact rfl) T.g__law_odd T.F_law_odd.kp (b_law_odd T) (by exact ga_cons (by exact go_own (by exact pv 0)) (by exact ga_nil)))) (by exact ga_nil))))))))))))) (by exact gss_one (by exact gs_ret (by exact ge_bin or_add os_add (by exact ge_o (by exact ge_bin or_add os_add (by exact ge_o (by exact ge_p (by exact gu_sl slr_seq ss_seq (by exact gv_u (by exact gu_var (by exact pv 2))) (by exact gpp_none) (by exact gpp_some (by exact gu_var (by exact pv 4)))))) (by exact ge_o (by exact ge_tup (by exact ga_cons (by exact ge_o (by exact ge_call tk (ok_law_pick T) (hr.mono (by decide)) (by exact rfl) T.g__law_pick T.F_law_pick.kp (b_law_pick T) (by exact ga_cons (by exact go_own (by exact pv 0)) (by exact ga_cons (by exact ge_o (by exact ge_p (by exact gu_var (by exact pv 6)))) (by exact ga_nil))))) (by exact ga_nil)))))) (by exact ge_o (by exact ge_p (by exact gu_sl slr_seq ss_seq (by exact gv_u (by exact gu_var (by exact pv 2))) (by exact gpp_some (by exact gu_bin or_add os_add (by exact gv_u (by exact gu_var (by exact pv 4))) (by exact gv_u (by exact gu_int)))) (by exact gpp_none)))))))))))
theorem sc_net_of : FnScope ["web", "stream", "found", "tie", "units"] ["web", "stream"] (defScope (top 20)) := ⟨rfl, rfl, rfl, by decide +kernel, rfl, by decide +kernel, by decide +kernel⟩
theorem b_net_of {K : PySem.W.Frag} {mg : Str → Option Value} (T : Tx K mg) : Binds K T.fd_net_of ["web", "stream"] [] := T.F_net_of.bindsN fun _ _ _ _ _ _ us hl => match us, hl with | [_, _], _ => rfl
def B_net_of : MS :=
    mSeq (mAsgB 2 (mRep (aCons (eO (mP (pC (.int 0)))) (aNil)) (pFld tabF0 "many" (pVar 0))))
    (mSeq (mFor (iZipD (aCons (eO (mP (pFld tabF0 "ties" (pVar 0)))) (aCons (eO (mP (pVar 1))) (aNil)))) (gUn (gOne (gSet 3) (gOne (gSet 4) (gNone)))) (mSeq (mAugS tabF0 2 [] (fun a b => a - b) (pFlat (pOp2 fAt (pVar 3) (pC (.int 0)))) (pVar 4))
    (mAugS tabF0 2 [] (fun a b => a + b) (pFlat (pOp2 fAt (pVar 3) (pC (.int 1)))) (pVar 4))))
    (mThen 2 (mRet (mP (pVar 2)))))
def M_net_of : List D → Out := fnB 5 [] B_net_of
theorem ok_net_of {P : Program} {w : World} {K : PySem.W.Frag} {mg : Str → Option Value} {base : Heap} (T : Tx K mg) : FnOk P w K mg base (L2.CX P w) 1 (He.fAd K ("net_of", none)) T.fd_net_of ["web", "stream"] (spM K mg 2 [] M_net_of) := by
  refine fn_mirD (b := B_net_of) (st := (top 20)) (N := ["web", "stream", "found", "tie", "units"]) (ps := ["web", "stream"]) (m := []) (k := 0) T.F_net_of sc_net_of (by decide) (by decide) ?_
  intro cdv A outer s H vs E hr
  have tk := takes_of (E := E) (X := cxOf (L2.CX P w) P w K mg base ["web", "stream", "found", "tie", "units"] "net_of" (defScope (top 20)) (He.fAd K ("net_of", none)) cdv A outer s H E) rfl rfl rfl rfl
  have hp := passes_of (X := cxOf (L2.CX P w) P w K mg base ["web", "stream", "found", "tie", "units"] "net_of" (defScope (top 20)) (He.fAd K ("net_of", none)) cdv A outer s H E) rfl
  have hu1 : (cxOf (L2.CX P w) P w K mg base ["web", "stream", "found", "tie", "units"] "net_of" (defScope (top 20)) (He.fAd K ("net_of", none)) cdv A outer s H E).A.units + 1 < cLine := Nat.lt_of_le_of_lt (Nat.add_le_add_left (by decide) _) hr.units
  exact gss_cons (by exact gs_setB (by exact off_jOf rfl) (by exact sc_net_of.nd) (by exact rfl) (by first | exact Or.inl rfl | exact Or.inr rfl) (by exact gf_rep (by exact ga_cons (by exact ge_o (by exact ge_p (by exact gu_int))) (by exact ga_nil)) (by exact gu_fld T.fld (by exact gv_u (by exact gu_var (by exact pv 0)))))) (by exact gss_cons (by exact gs_for (by exact hp) (by exact rfl) (by exact gi_zip (by exact rfl) T.n_zip (by exact ga_cons (by exact ge_o (by exact ge_p (by exact gu_fld T.fld (by exact gv_u (by exact gu_var (by exact pv 0)))))) (by exact ga_cons (by exact ge_o (by exact ge_p (by exact gu_var (by exact pv 1)))) (by exact ga_nil)))) (by exact gg_tup (by exact rfl) (by exact ggs_cons (by exact gg_name (by exact off_jOf rfl) (by exact sc_net_of.nd) (by exact rfl) (by first | exact Or.inl rfl | exact Or.inr rfl)) (by exact ggs_cons (by exact gg_name (by exact off_jOf rfl) (by exact sc_net_of.nd) (by exact rfl) (by first | exact Or.inl rfl | exact Or.inr rfl)) (by exact ggs_nil))) (by exact gOne_len (gOne_len (gNone_len)))) (by exact gss_cons (by exact gs_augS hu1 (by exact gp_var (by exact pv 2)) (by exact gk_u (by exact gu_ix (ix_at hu1) os_at (by exact gv_u (by exact gu_var (by exact pv 3))) (by exact gv_u (by exact gu_int)))) (by exact gu_var (by exact pv 4)) ip_sub) (by exact gss_one (by exact gs_augS hu1 (by exact gp_var (by exact pv 2)) (by exact gk_u (by exact gu_ix (ix_at hu1) os_at (by exact gv_u (by exact gu_var (by exact pv 3))) (by exact gv_u (by exact gu_int)))) (by exact gu_var (by exact pv 4)) ip_add)))) (by exact gss_frz (by exact gss_one (by exact gs_ret (by exact ge_p (by exact gu_var (by exact pv 2)))))))
theorem sc_is_right_stream : FnScope ["web", "thing", "units", "tie", "ends", "house", "net"] ["web", "thing"] (defScope (top 21)) := ⟨rfl, rfl, rfl, by decide +kernel, rfl, by decide +kernel, by decide +kernel⟩
theorem b_is_right_stream {K : PySem.W.Frag} {mg : Str → Option Value} (T : Tx K mg) : Binds K T.fd_is_right_stream ["web", "thing"] [] := T.F_is_right_stream.bindsN fun _ _ _ _ _ _ us hl => match us, hl with | [_, _], _ => rfl
def B_is_right_stream : MS :=
    mSeq (mIf (mOr (mNot (tPu (pCall 3 M_is_sized (psCons (pVar 1) (psCons (pFn fLen (psCons (pFld tabF0 "ties" (pVar 0)) (psNil))) (psCons (pFn fLen (psCons (pFld tabF0 "ties" (pVar 0)) (psNil))) (psNil))))))) (mNot (mTest (mFn fAll (aCons (eO (mFrz (mLc [2] (iSeq (mP (pVar 1))) (gSet 2) (mYes) (mP (pCall 1 M_is_integer (psCons (pVar 2) (psNil))))))) (aNil)))))) (mRet (mP (pC (.bl false)))) (mNext))
    (mSeq (mIf (mNot (mTest (mFn fAll (aCons (eO (mFrz (mLc [3, 2] (iZipD (aCons (eO (mP (pFld tabF0 "ties" (pVar 0)))) (aCons (eO (mP (pVar 1))) (aNil)))) (gUn (gOne (gSet 3) (gOne (gSet 2) (gNone)))) (mYes) (mP (pChain fLeA fLeA (pOp1 fNeg (pOp2 fAt (pVar 3) (pC (.int 3)))) (pVar 2) (pOp2 fAt (pVar 3) (pC (.int 2)))))))) (aNil))))) (mRet (mP (pC (.bl false)))) (mNext))
    (mSeq (mAsg 4 (mP (pTup (psCons (pFld tabF0 "spring" (pVar 0)) (psCons (pFld tabF0 "mouth" (pVar 0)) (psNil))))))
    (mRet (mFn fAll (aCons (eO (mFrz (mLc [5, 6] (iEnumD (aCons (eO (mP (pCall 2 M_net_of (psCons (pVar 0) (psCons (pVar 1) (psNil)))))) (aNil))) (gUn (gOne (gSet 5) (gOne (gSet 6) (gNone)))) (mYes) (mP (pOr (pOp2 (fInF false) (pVar 5) (pVar 4)) (pOp2 (eqD false) (pVar 6) (pC (.int 0)))))))) (aNil))))))
def M_is_right_stream : List D → Out := fnB 7 [] B_is_right_stream
theorem ok_is_right_stream {P : Program} {w : World} {K : PySem.W.Frag} {mg : Str → Option Value} {base : Heap} (T : Tx K mg) : FnOk P w K mg base (L2.CX P w) 2 (He.fAd K ("is_right_stream", none)) T.fd_is_right_stream ["web", "thing"] (spM K mg 2 [] M_is_right_stream) := by
  refine fn_mirD (b := B_is_right_stream) (st := (top 21)) (N := ["web", "thing", "units", "tie", "ends", "house", "net"]) (ps := ["web", "thing"]) (m := []) (k := 1) T.F_is_right_stream sc_is_right_stream (by decide) (by decide) ?_
  intro cdv A outer s H vs E hr
  have tk := takes_of (E := E) (X := cxOf (L2.CX P w) P w K mg base ["web", "thing", "units", "tie", "ends", "house", "net"] "is_right_stream" (defScope (top 21)) (He.fAd K ("is_right_stream", none)) cdv A outer s H E) rfl rfl rfl rfl
  have hp := passes_of (X := cxOf (L2.CX P w) P w K mg base ["web", "thing", "units", "tie", "ends", "house", "net"] "is_right_stream" (defScope (top 21)) (He.fAd K ("is_right_stream", none)) cdv A outer s H E) rfl
  have hu1 : (cxOf (L2.CX P w) P w K mg base ["web", "thing", "units", "tie", "ends", "house", "net"] "is_right_stream" (defScope (top 21)) (He.fAd K ("is_right_stream", none)) cdv A outer s H E).A.units + 1 < cLine := Nat.lt_of_le_of_lt (Nat.add_le_add_left (by decide) _) hr.units
  exact gss_cons (by exact gs_if (by exact PW.pt (by exact gw_or (by exact gt_not (by exact gt_u (by exact gu_call tk (ok_is_sized T) (hr.mono (by decide)) (by exact rfl) T.g_is_sized T.F_is_sized.kp (b_is_sized T) (by exact gus_cons (by exact gu_var (by exact pv 1)) (by exact gus_cons (by exact gu_callB cr_len fs_len (by exact rfl) T.n_len Boot.«len» (by exact gvs_cons (by exact gv_u (by exact gu_fld T.fld (by exact gv_u (by exact gu_var (by exact pv 0))))) (by exact gps_nil))) (by exact gus_cons (by exact gu_callB cr_len fs_len (by exact rfl) T.n_len Boot.«len» (by exact gvs_cons (by exact gv_u (by exact gu_fld T.fld (by exact gv_u (by exact gu_var (by exact pv 0))))) (by exact gps_nil))) (by exact gps_nil))))))) (by exact gw_or1 (by exact gt_not (by exact gt_val (by exact ge_callB (cr_all rfl) fs_all (by exact rfl) T.n_all Boot.«all» (by exact ga_cons (by exact ge_o (by exact ge_frz (by exact gf_lc (own := [("units", 2)]) (by exact rfl) (by exact sc_is_right_stream.nd) (by exact gi_seq (by exact ge_p (by exact gu_var (by exact pv 1)))) (by show BlkOk ["web", "thing", "units", "tie", "ends", "house", "net"] (defScope (top 21)) _ [("units", 2)]; exact ⟨rfl, by decide +kernel, by decide +kernel, by decide +kernel, by decide +kernel⟩) (fun s2 H2 C2 cl2 fp2 => by exact gg_name (by exact off_jOf rfl) (by exact sc_is_right_stream.nd) (by exact rfl) (by first | exact Or.inl rfl | exact Or.inr rfl) (by first | exact .inl rfl | exact .inr rfl)) (fun s2 H2 C2 cl2 fp2 => by exact gts_nil) (fun s2 H2 C2 cl2 fp2 => by exact ge_p (by exact gu_call takes0 (ok_is_integer T) (hr.mono (by decide)) (by exact rfl) T.g_is_integer T.F_is_integer.kp (b_is_integer T) (by exact gus_cons (by exact gu_var (by exact pv 2)) (by exact gps_nil)))) (by decide) (by intro v hv;  exact off_all (by decide) v hv)))) (by exact ga_nil)))))))) (by exact gss_one (by exact gs_ret (by exact ge_p (by exact gu_bl)))) (by exact gss_nil)) (by exact gss_cons (by exact gs_if (by exact gt_not (by exact gt_val (by exact ge_callB (cr_all rfl) fs_all (by exact rfl) T.n_all Boot.«all» (by exact ga_cons (by exact ge_o (by exact ge_frz (by exact gf_lc (own := [("tie", 3), ("units", 2)]) (by exact rfl) (by exact sc_is_right_stream.nd) (by exact gi_zip (by exact rfl) T.n_zip (by exact ga_cons (by exact ge_o (by exact ge_p (by exact gu_fld T.fld (by exact gv_u (by exact gu_var (by exact pv 0)))))) (by exact ga_cons (by exact ge_o (by exact ge_p (by exact gu_var (by exact pv 1)))) (by exact ga_nil)))) (by show BlkOk ["web", "thing", "units", "tie", "ends", "house", "net"] (defScope (top 21)) _ [("tie", 3), ("units", 2)]; exact ⟨rfl, by decide +kernel, by decide +kernel, by decide +kernel, by decide +kernel⟩) (fun s2 H2 C2 cl2 fp2 => by exact gg_tup (by exact rfl) (by exact ggs_cons (by exact gg_name (by exact off_jOf rfl) (by exact sc_is_right_stream.nd) (by exact rfl) (by first | exact Or.inl rfl | exact Or.inr rfl) (by first | exact .inl rfl | exact .inr rfl)) (by exact ggs_cons (by exact gg_name (by exact off_jOf rfl) (by exact sc_is_right_stream.nd) (by exact rfl) (by first | exact Or.inl rfl | exact Or.inr rfl) (by first | exact .inl rfl | exact .inr rfl)) (by exact ggs_nil))) (by exact gOne_len (gOne_len (gNone_len)))) (fun s2 H2 C2 cl2 fp2 => by exact gts_nil) (fun s2 H2 C2 cl2 fp2 => by exact ge_p (by exact gu_chain (op_leA hr.units0) os_leA (op_leA hr.units0) os_leA (by exact gv_u (by exact gu_un un_neg us_neg (by exact gv_u (by exact gu_ix (ix_at hu1) os_at (by exact gv_u (by exact gu_var (by exact pv 3))) (by exact gv_u (by exact gu_int)))))) (by exact gv_u (by exact gu_var (by exact pv 2))) (by exact gv_u (by exact gu_ix (ix_at hu1) os_at (by exact gv_u (by exact gu_var (by exact pv 3))) (by exact gv_u (by exact gu_int)))))) (by decide) (by intro v hv;  exact off_all (by decide) v hv)))) (by exact ga_nil))))) (by exact gss_one (by exact gs_ret (by exact ge_p (by exact gu_bl)))) (by exact gss_nil)) (by exact gss_cons (by exact gs_set (by exact off_jOf rfl) (by exact sc_is_right_stream.nd) (by exact rfl) (by first | exact Or.inl rfl | exact Or.inr rfl) (by exact ge_p (by exact gu_tup (by exact gus_cons (by exact gu_fld T.fld (by exact gv_u (by exact gu_var (by exact pv 0)))) (by exact gus_cons (by exact gu_fld T.fld (by exact gv_u (by exact gu_var (by exact pv 0)))) (by exact gps_nil)))))) (by exact gss_one (by exact gs_ret (by exact ge_callB (cr_all rfl) fs_all (by exact rfl) T.n_all Boot.«all» (by exact ga_cons (by exact ge_o (by exact ge_frz (by exact gf_lc (own := [("house", 5), ("net", 6)]) (by exact rfl) (by exact sc_is_right_stream.nd) (by exact gi_enum (by exact rfl) T.n_enumerate (by exact ga_cons (by exact ge_o (by exact ge_p (by exact gu_call tk (ok_net_of T) (hr.mono (by decide)) (by exact rfl) T.g_net_of T.F_net_of.kp (b_net_of T) (by exact gus_cons (by exact gu_var (by exact pv 0)) (by exact gus_cons (by exact gu_var (by exact pv 1)) (by exact gps_nil)))))) (by exact ga_nil))) (by show BlkOk ["web", "thing", "units", "tie", "ends", "house", "net"] (defScope (top 21)) _ [("house", 5), ("net", 6)]; exact ⟨rfl, by decide +kernel, by decide +kernel, by decide +kernel, by decide +kernel⟩) (fun s2 H2 C2 cl2 fp2 => by exact gg_tup (by exact rfl) (by exact ggs_cons (by exact gg_name (by exact off_jOf rfl) (by exact sc_is_right_stream.nd) (by exact rfl) (by first | exact Or.inl rfl | exact Or.inr rfl) (by first | exact .inl rfl | exact .inr rfl)) (by exact ggs_cons (by exact gg_name (by exact off_jOf rfl) (by exact sc_is_right_stream.nd) (by exact rfl) (by first | exact Or.inl rfl | exact Or.inr rfl) (by first | exact .inl rfl | exact .inr rfl)) (by exact ggs_nil))) (by exact gOne_len (gOne_len (gNone_len)))) (fun s2 H2 C2 cl2 fp2 => by exact gts_nil) (fun s2 H2 C2 cl2 fp2 => by exact ge_p (by exact gu_or (by exact gu_cmp (op_inA hu1) (os_in false) (by exact gv_u (by exact gu_var (by exact pv 5))) (by exact gv_u (by exact gu_var (by exact pv 4))) (by exact rfl)) (by exact gu_one (by exact gu_cmp (op_eqD hr.units) os_eqD (by exact gv_u (by exact gu_var (by exact pv 6))) (by exact gv_u (by exact gu_int)) (by exact rfl))))) (by decide) (by intro v hv;  exact off_all (by decide) v hv)))) (by exact ga_nil)))))))
theorem sc_is_stream : FnScope ["web", "thing"] ["web", "thing"] (defScope (top 22)) := ⟨rfl, rfl, rfl, by decide +kernel, rfl, by decide +kernel, by decide +kernel⟩
theorem b_is_stream {K : PySem.W.Frag} {mg : Str → Option Value} (T : Tx K mg) : Binds K T.fd_is_stream ["web", "thing"] [] := T.F_is_stream.bindsN fun _ _ _ _ _ _ us hl => match us, hl with | [_, _], _ => rfl
def B_is_stream : MS :=
    mRet (mP (pCall 2 M_is_right_stream (psCons (pVar 0) (psCons (pVar 1) (psNil)))))
def M_is_stream : List D → Out := fnB 2 [] B_is_stream
theorem ok_is_stream {P : Program} {w : World} {K : PySem.W.Frag} {mg : Str → Option Value} {base : Heap} (T : Tx K mg) : FnOk P w K mg base (L2.CX P w) 3 (He.fAd K ("is_stream", none)) T.fd_is_stream ["web", "thing"] (spM K mg 2 [] M_is_stream) := by
  refine fn_mirD (b := B_is_stream) (st := (top 22)) (N := ["web", "thing"]) (ps := ["web", "thing"]) (m := []) (k := 2) T.F_is_stream sc_is_stream (by decide) (by decide) ?_
  intro cdv A outer s H vs E hr
  have tk := takes_of (E := E) (X := cxOf (L2.CX P w) P w K mg base ["web", "thing"] "is_stream" (defScope (top 22)) (He.fAd K ("is_stream", none)) cdv A outer s H E) rfl rfl rfl rfl
  have hp := passes_of (X := cxOf (L2.CX P w) P w K mg base ["web", "thing"] "is_stream" (defScope (top 22)) (He.fAd K ("is_stream", none)) cdv A outer s H E) rfl
  have hu1 : (cxOf (L2.CX P w) P w K mg base ["web", "thing"] "is_stream" (defScope (top 22)) (He.fAd K ("is_stream", none)) cdv A outer s H E).A.units + 1 < cLine := Nat.lt_of_le_of_lt (Nat.add_le_add_left (by decide) _) hr.units
  exact gss_one (by exact gs_ret (by exact ge_p (by exact gu_call tk (ok_is_right_stream T) (hr.mono (by decide)) (by exact rfl) T.g_is_right_stream T.F_is_right_stream.kp (b_is_right_stream T) (by exact gus_cons (by exact gu_var (by exact pv 0)) (by exact gus_cons (by exact gu_var (by exact pv 1)) (by exact gps_nil))))))
theorem sc_law_is_within : FnScope ["_law_thing", "_law_least", "_law_top"] ["_law_thing", "_law_least", "_law_top"] (defScope (top 34)) := ⟨rfl, rfl, rfl, by decide +kernel, rfl, by decide +kernel, by decide +kernel⟩
theorem b_law_is_within {K : PySem.W.Frag} {mg : Str → Option Value} (T : Tx K mg) : Binds K T.fd_law_is_within ["_law_thing", "_law_least", "_law_top"] [] := T.F_law_is_within.bindsN fun _ _ _ _ _ _ us hl => match us, hl with | [_, _, _], _ => rfl
def B_law_is_within : MS :=
    mRet (mP (pAnd (pCall 1 M_law_is_integer (psCons (pVar 0) (psNil))) (pAnd (pOp2 fLeA (pVar 1) (pVar 0)) (pOp2 fLeA (pVar 0) (pVar 2)))))
def M_law_is_within : List D → Out := fnB 3 [] B_law_is_within
theorem ok_law_is_within {P : Program} {w : World} {K : PySem.W.Frag} {mg : Str → Option Value} {base : Heap} (T : Tx K mg) : FnOk P w K mg base (L2.CX P w) 2 (He.fAd K ("_law_is_within", none)) T.fd_law_is_within ["_law_thing", "_law_least", "_law_top"] (spM K mg 3 [] M_law_is_within) := by
  refine fn_mirD (b := B_law_is_within) (st := (top 34)) (N := ["_law_thing", "_law_least", "_law_top"]) (ps := ["_law_thing", "_law_least", "_law_top"]) (m := []) (k := 1) T.F_law_is_within sc_law_is_within (by decide) (by decide) ?_
  intro cdv A outer s H vs E hr
  have tk := takes_of (E := E) (X := cxOf (L2.CX P w) P w K mg base ["_law_thing", "_law_least", "_law_top"] "_law_is_within" (defScope (top 34)) (He.fAd K ("_law_is_within", none)) cdv A outer s H E) rfl rfl rfl rfl
  have hp := passes_of (X := cxOf (L2.CX P w) P w K mg base ["_law_thing", "_law_least", "_law_top"] "_law_is_within" (defScope (top 34)) (He.fAd K ("_law_is_within", none)) cdv A outer s H E) rfl
  have hu1 : (cxOf (L2.CX P w) P w K mg base ["_law_thing", "_law_least", "_law_top"] "_law_is_within" (defScope (top 34)) (He.fAd K ("_law_is_within", none)) cdv A outer s H E).A.units + 1 < cLine := Nat.lt_of_le_of_lt (Nat.add_le_add_left (by decide) _) hr.units
  exact gss_one (by exact gs_ret (by exact ge_p (by exact gu_and (by exact gu_call tk (ok_law_is_integer T) (hr.mono (by decide)) (by exact rfl) T.g__law_is_integer T.F_law_is_integer.kp (b_law_is_integer T) (by exact gus_cons (by exact gu_var (by exact pv 0)) (by exact gps_nil))) (by exact gu_and (by exact gu_cmp (op_leA hr.units0) os_leA (by exact gv_u (by exact gu_var (by exact pv 1))) (by exact gv_u (by exact gu_var (by exact pv 0))) (by exact rfl)) (by exact gu_one (by exact gu_cmp (op_leA hr.units0) os_leA (by exact gv_u (by exact gu_var (by exact pv 0))) (by exact gv_u (by exact gu_var (by exact pv 2))) (by exact rfl)))))))
theorem sc_law_come : FnScope ["_law_plan", "_law_stream", "_law_house", "_law_other"] ["_law_plan", "_law_stream", "_law_house"] (defScope (top 45)) := ⟨rfl, rfl, rfl, by decide +kernel, rfl, by decide +kernel, by decide +kernel⟩
theorem b_law_come {K : PySem.W.Frag} {mg : Str → Option Value} (T : Tx K mg) : Binds K T.fd_law_come ["_law_plan", "_law_stream", "_law_house"] [] := T.F_law_come.bindsN fun _ _ _ _ _ _ us hl => match us, hl with | [_, _, _], _ => rfl
def B_law_come : MS :=
    mRet (mFn fSum (aCons (eO (mFrz (mLc [3] (iSeq (mP (pCall 2 M_law_near (psCons (pVar 0) (psCons (pVar 2) (psNil)))))) (gSet 3) (mYes) (mP (pCall 4 M_law_flow (psCons (pVar 0) (psCons (pVar 1) (psCons (pVar 3) (psCons (pVar 2) (psNil)))))))))) (aNil)))
def M_law_come : List D → Out := fnB 4 [] B_law_come
theorem ok_law_come {P : Program} {w : World} {K : PySem.W.Frag} {mg : Str → Option Value} {base : Heap} (T : Tx K mg) : FnOk P w K mg base (L2.CX P w) 4 (He.fAd K ("_law_come", none)) T.fd_law_come ["_law_plan", "_law_stream", "_law_house"] (spM K mg 3 [] M_law_come) := by
  refine fn_mirD (b := B_law_come) (st := (top 45)) (N := ["_law_plan", "_law_stream", "_law_house", "_law_other"]) (ps := ["_law_plan", "_law_stream", "_law_house"]) (m := []) (k := 3) T.F_law_come sc_law_come (by decide) (by decide) ?_
  intro cdv A outer s H vs E hr
  have tk := takes_of (E := E) (X := cxOf (L2.CX P w) P w K mg base ["_law_plan", "_law_stream", "_law_house", "_law_other"] "_law_come" (defScope (top 45)) (He.fAd K ("_law_come", none)) cdv A outer s H E) rfl rfl rfl rfl
  have hp := passes_of (X := cxOf (L2.CX P w) P w K mg base ["_law_plan", "_law_stream", "_law_house", "_law_other"] "_law_come" (defScope (top 45)) (He.fAd K ("_law_come", none)) cdv A outer s H E) rfl
  have hu1 : (cxOf (L2.CX P w) P w K mg base ["_law_plan", "_law_stream", "_law_house", "_law_other"] "_law_come" (defScope (top 45)) (He.fAd K ("_law_come", none)) cdv A outer s H E).A.units + 1 < cLine := Nat.lt_of_le_of_lt (Nat.add_le_add_left (by decide) _) hr.units
  exact gss_one (by exact gs_ret (by exact ge_callB (cr_sum rfl) fs_sum (by exact rfl) T.n_sum Boot.«sum» (by exact ga_cons (by exact ge_o (by exact ge_frz (by exact gf_lc (own := [("_law_other", 3)]) (by exact rfl) (by exact sc_law_come.nd) (by exact gi_seq (by exact ge_p (by exact gu_call tk (ok_law_near T) (hr.mono (by decide)) (by exact rfl) T.g__law_near T.F_law_near.kp (b_law_near T) (by exact gus_cons (by exact gu_var (by exact pv 0)) (by exact gus_cons (by exact gu_var (by exact pv 2)) (by exact gps_nil)))))) (by show BlkOk ["_law_plan", "_law_stream", "_law_house", "_law_other"] (defScope (top 45)) _ [("_law_other", 3)]; exact ⟨rfl, by decide +kernel, by decide +kernel, by decide +kernel, by decide +kernel⟩) (fun s2 H2 C2 cl2 fp2 => by exact gg_name (by exact off_jOf rfl) (by exact sc_law_come.nd) (by exact rfl) (by first | exact Or.inl rfl | exact Or.inr rfl) (by first | exact .inl rfl | exact .inr rfl)) (fun s2 H2 C2 cl2 fp2 => by exact gts_nil) (fun s2 H2 C2 cl2 fp2 => by exact ge_p (by exact gu_call takes0 (ok_law_flow T) (hr.mono (by decide)) (by exact rfl) T.g__law_flow T.F_law_flow.kp (b_law_flow T) (by exact gus_cons (by exact gu_var (by exact pv 0)) (by exact gus_cons (by exact gu_var (by exact pv 1)) (by exact gus_cons (by exact gu_var (by exact pv 3)) (by exact gus_cons (by exact gu_var (by exact pv 2)) (by exact gps_nil))))))) (by decide) (by intro v hv;  exact off_all (by decide) v hv)))) (by exact ga_nil))))
theorem sc_law_is_stream : FnScope ["_law_plan", "_law_thing", "_law_k", "_law_house"] ["_law_plan", "_law_thing"] (defScope (top 46)) := ⟨rfl, rfl, rfl, by decide +kernel, rfl, by decide +kernel, by decide +kernel⟩
theorem b_law_is_stream {K : PySem.W.Frag} {mg : Str → Option Value} (T : Tx K mg) : Binds K T.fd_law_is_stream ["_law_plan", "_law_thing"] [] := T.F_law_is_stream.bindsN fun _ _ _ _ _ _ us hl => match us, hl with | [_, _], _ => rfl
def B_law_is_stream : MS :=
    mSeq (mIf (mOr (mNot (tPu (pIsi (isi_tuple) (pVar 1)))) (tPu (pOp2 (eqD true) (pFn fLen (psCons (pVar 1) (psNil))) (pFn fLen (psCons (pOp2 fAt (pVar 0) (pC (.int 1))) (psNil)))))) (mRet (mP (pC (.bl false)))) (mNext))
    (mSeq (mFor (iRange1 (aCons (eO (mP (pFn fLen (psCons (pVar 1) (psNil))))) (aNil))) (gSet 2) (mIf (mNot (tPu (pCall 3 M_law_is_within (psCons (pOp2 fAt (pVar 1) (pVar 2)) (psCons (pOp1 fNeg (pOp2 fAt (pOp2 fAt (pOp2 fAt (pVar 0) (pC (.int 1))) (pVar 2)) (pC (.int 3)))) (psCons (pOp2 fAt (pOp2 fAt (pOp2 fAt (pVar 0) (pC (.int 1))) (pVar 2)) (pC (.int 2))) (psNil))))))) (mRet (mP (pC (.bl false)))) (mNext)))
    (mRet (mOp2 (eqD false) (eO (mFn fLen (aCons (eO (mFrz (mLc [3] (iRange1 (aCons (eO (mP (pOp2 fAt (pVar 0) (pC (.int 0))))) (aNil))) (gSet 3) (mAnd (tPu (pOp2 (fInF true) (pVar 3) (pSl fSl (pVar 0) (pPart (pC (.int 2))) (pNoPart)))) (tPu (pOp2 (eqD true) (pCall 3 M_law_come (psCons (pVar 0) (psCons (pVar 1) (psCons (pVar 3) (psNil))))) (pC (.int 0))))) (mP (pVar 3))))) (aNil)))) (eO (mP (pC (.int 0)))))))
def M_law_is_stream : List D → Out := fnB 4 [] B_law_is_stream
theorem ok_law_is_stream {P : Program} {w : World} {K : PySem.W.Frag} {mg : Str → Option Value} {base : Heap} (T : Tx K mg) : FnOk P w K mg base (L2.CX P w) 5 (He.fAd K ("_law_is_stream", none)) T.fd_law_is_stream ["_law_plan", "_law_thing"] (spM K mg 2 [] M_law_is_stream) := by
  refine fn_mirD (b := B_law_is_stream) (st := (top 46)) (N := ["_law_plan", "_law_thing", "_law_k", "_law_house"]) (ps := ["_law_plan", "_law_thing"]) (m := []) (k := 4) T.F_law_is_stream sc_law_is_stream (by decide) (by decide) ?_
  intro cdv A outer s H vs E hr
  have tk := takes_of (E := E) (X := cxOf (L2.CX P w) P w K mg base ["_law_plan", "_law_thing", "_law_k", "_law_house"] "_law_is_stream" (defScope (top 46)) (He.fAd K ("_law_is_stream", none)) cdv A outer s H E) rfl rfl rfl rfl
  have hp := passes_of (X := cxOf (L2.CX P w) P w K mg base ["_law_plan", "_law_thing", "_law_k", "_law_house"] "_law_is_stream" (defScope (top 46)) (He.fAd K ("_law_is_stream", none)) cdv A outer s H E) rfl
  have hu1 : (cxOf (L2.CX P w) P w K mg base ["_law_plan", "_law_thing", "_law_k", "_law_house"] "_law_is_stream" (defScope (top 46)) (He.fAd K ("_law_is_stream", none)) cdv A outer s H E).A.units + 1 < cLine := Nat.lt_of_le_of_lt (Nat.add_le_add_left (by decide) _) hr.units
  exact gss_cons (by exact gs_if (by exact PW.pt (by exact gw_or (by exact gt_not (by exact gt_u (by exact gu_isi T.i_tuple (.ty _) (by exact rfl) T.n_isinstance (by exact gv_u (by exact gu_var (by exact pv 1))) (pe_bltn (by exact rfl) T.n_tuple Boot.«tuple» rfl (by decide))))) (by exact gw_or1 (by exact gt_cmpU (op_neD hr.units) os_neD (by exact gv_u (by exact gu_callB cr_len fs_len (by exact rfl) T.n_len Boot.«len» (by exact gvs_cons (by exact gv_u (by exact gu_var (by exact pv 1))) (by exact gps_nil)))) (by exact gv_u (by exact gu_callB cr_len fs_len (by exact rfl) T.n_len Boot.«len» (by exact gvs_cons (by exact gv_u (by exact gu_ix (ix_at hu1) os_at (by exact gv_u (by exact gu_var (by exact pv 0))) (by exact gv_u (by exact gu_int)))) (by exact gps_nil)))) (by exact rfl))))) (by exact gss_one (by exact gs_ret (by exact ge_p (by exact gu_bl)))) (by exact gss_nil)) (by exact gss_cons (by exact gs_for (by exact hp) (by exact rfl) (by exact gi_range1 (by exact rfl) T.n_range (by exact ga_cons (by exact ge_o (by exact ge_p (by exact gu_callB cr_len fs_len (by exact rfl) T.n_len Boot.«len» (by exact gvs_cons (by exact gv_u (by exact gu_var (by exact pv 1))) (by exact gps_nil))))) (by exact ga_nil))) (by exact gg_name (by exact off_jOf rfl) (by exact sc_law_is_stream.nd) (by exact rfl) (by first | exact Or.inl rfl | exact Or.inr rfl)) (by exact gss_one (by exact gs_if (by exact gt_not (by exact gt_u (by exact gu_call tk (ok_law_is_within T) (hr.mono (by decide)) (by exact rfl) T.g__law_is_within T.F_law_is_within.kp (b_law_is_within T) (by exact gus_cons (by exact gu_ix (ix_at hu1) os_at (by exact gv_u (by exact gu_var (by exact pv 1))) (by exact gv_u (by exact gu_var (by exact pv 2)))) (by exact gus_cons (by exact gu_un un_neg us_neg (by exact gv_u (by exact gu_ix (ix_at hu1) os_at (by exact gv_u (by exact gu_ix (ix_at hu1) os_at (by exact gv_u (by exact gu_ix (ix_at hu1) os_at (by exact gv_u (by exact gu_var (by exact pv 0))) (by exact gv_u (by exact gu_int)))) (by exact gv_u (by exact gu_var (by exact pv 2))))) (by exact gv_u (by exact gu_int))))) (by exact gus_cons (by exact gu_ix (ix_at hu1) os_at (by exact gv_u (by exact gu_ix (ix_at hu1) os_at (by exact gv_u (by exact gu_ix (ix_at hu1) os_at (by exact gv_u (by exact gu_var (by exact pv 0))) (by exact gv_u (by exact gu_int)))) (by exact gv_u (by exact gu_var (by exact pv 2))))) (by exact gv_u (by exact gu_int))) (by exact gps_nil))))))) (by exact gss_one (by exact gs_ret (by exact ge_p (by exact gu_bl)))) (by exact gss_nil)))) (by exact gss_one (by exact gs_ret (by exact ge_cmp (op_eqD hr.units) os_eqD (by exact ge_o (by exact ge_callB cr_len fs_len (by exact rfl) T.n_len Boot.«len» (by exact ga_cons (by exact ge_o (by exact ge_frz (by exact gf_lc (own := [("_law_house", 3)]) (by exact rfl) (by exact sc_law_is_stream.nd) (by exact gi_range1 (by exact rfl) T.n_range (by exact ga_cons (by exact ge_o (by exact ge_p (by exact gu_ix (ix_at hu1) os_at (by exact gv_u (by exact gu_var (by exact pv 0))) (by exact gv_u (by exact gu_int))))) (by exact ga_nil))) (by show BlkOk ["_law_plan", "_law_thing", "_law_k", "_law_house"] (defScope (top 46)) _ [("_law_house", 3)]; exact ⟨rfl, by decide +kernel, by decide +kernel, by decide +kernel, by decide +kernel⟩) (fun s2 H2 C2 cl2 fp2 => by exact gg_name (by exact off_jOf rfl) (by exact sc_law_is_stream.nd) (by exact rfl) (by first | exact Or.inl rfl | exact Or.inr rfl) (by first | exact .inl rfl | exact .inr rfl)) (fun s2 H2 C2 cl2 fp2 => by exact gts_one (by exact PW.pt (by exact gw_and (by exact gt_cmpU (op_notInA hu1) (os_in true) (by exact gv_u (by exact gu_var (by exact pv 3))) (by exact gv_u (by exact gu_sl slr_seq ss_seq (by exact gv_u (by exact gu_var (by exact pv 0))) (by exact gpp_some (by exact gu_int)) (by exact gpp_none))) (by exact rfl)) (by exact gw_and1 (by exact gt_cmpU (op_neD hr.units) os_neD (by exact gv_u (by exact gu_call takes0 (ok_law_come T) (hr.mono (by decide)) (by exact rfl) T.g__law_come T.F_law_come.kp (b_law_come T) (by exact gus_cons (by exact gu_var (by exact pv 0)) (by exact gus_cons (by exact gu_var (by exact pv 1)) (by exact gus_cons (by exact gu_var (by exact pv 3)) (by exact gps_nil)))))) (by exact gv_u (by exact gu_int)) (by exact rfl)))))) (fun s2 H2 C2 cl2 fp2 => by exact ge_p (by exact gu_var (by exact pv 3))) (by decide) (by intro v hv;  exact off_all (by decide) v hv)))) (by exact ga_nil)))) (by exact ge_o (by exact ge_p (by exact gu_int))) (by exact rfl)))))
theorem sc_check_stream : FnScope ["web", "thing"] ["web", "thing"] (defScope (top 23)) := ⟨rfl, rfl, rfl, by decide +kernel, rfl, by decide +kernel, by decide +kernel⟩
theorem b_check_stream {K : PySem.W.Frag} {mg : Str → Option Value} (T : Tx K mg) : Binds K T.fd_check_stream ["web", "thing"] [] := T.F_check_stream.bindsN fun _ _ _ _ _ _ us hl => match us, hl with | [_, _], _ => rfl
def B_check_stream : MS :=
    mIf (mNot (tPu (pCall 2 M_is_right_stream (psCons (pVar 0) (psCons (pVar 1) (psNil)))))) (mRaise0 "NoStream") (mNext)
def M_check_stream : List D → Out := fnB 2 [] B_check_stream
theorem ok_check_stream {P : Program} {w : World} {K : PySem.W.Frag} {mg : Str → Option Value} {base : Heap} (T : Tx K mg) : FnOk P w K mg base (L2.CX P w) 3 (He.fAd K ("check_stream", none)) T.fd_check_stream ["web", "thing"] (spM K mg 2 [] M_check_stream) := by
  refine fn_mirD (b := B_check_stream) (st := (top 23)) (N := ["web", "thing"]) (ps := ["web", "thing"]) (m := []) (k := 2) T.F_check_stream sc_check_stream (by decide) (by decide) ?_
  intro cdv A outer s H vs E hr
  have tk := takes_of (E := E) (X := cxOf (L2.CX P w) P w K mg base ["web", "thing"] "check_stream" (defScope (top 23)) (He.fAd K ("check_stream", none)) cdv A outer s H E) rfl rfl rfl rfl
  have hp := passes_of (X := cxOf (L2.CX P w) P w K mg base ["web", "thing"] "check_stream" (defScope (top 23)) (He.fAd K ("check_stream", none)) cdv A outer s H E) rfl
  have hu1 : (cxOf (L2.CX P w) P w K mg base ["web", "thing"] "check_stream" (defScope (top 23)) (He.fAd K ("check_stream", none)) cdv A outer s H E).A.units + 1 < cLine := Nat.lt_of_le_of_lt (Nat.add_le_add_left (by decide) _) hr.units
  exact gss_one (by exact gs_if (by exact gt_not (by exact gt_u (by exact gu_call tk (ok_is_right_stream T) (hr.mono (by decide)) (by exact rfl) T.g_is_right_stream T.F_is_right_stream.kp (b_is_right_stream T) (by exact gus_cons (by exact gu_var (by exact pv 0)) (by exact gus_cons (by exact gu_var (by exact pv 1)) (by exact gps_nil)))))) (by exact gss_one (by exact gs_raise0 (by exact rfl) tk PySem.F.excBase_ValueError T.x_NoStream.1 T.g_NoStream T.x_NoStream.2.1 (raises_own T.x_NoStream.2.2.1 T.x_NoStream.2.2.2) (by exact rfl))) (by exact gss_nil))
theorem sc_worth_of : FnScope ["web", "stream"] ["web", "stream"] (defScope (top 24)) := ⟨rfl, rfl, rfl, by decide +kernel, rfl, by decide +kernel, by decide +kernel⟩
theorem b_worth_of {K : PySem.W.Frag} {mg : Str → Option Value} (T : Tx K mg) : Binds K T.fd_worth_of ["web", "stream"] [] := T.F_worth_of.bindsN fun _ _ _ _ _ _ us hl => match us, hl with | [_, _], _ => rfl
def B_worth_of : MS :=
    mRet (mP (pOp2 fAt (pCall 2 M_net_of (psCons (pVar 0) (psCons (pVar 1) (psNil)))) (pFld tabF0 "mouth" (pVar 0))))
def M_worth_of : List D → Out := fnB 2 [] B_worth_of
theorem ok_worth_of {P : Program} {w : World} {K : PySem.W.Frag} {mg : Str → Option Value} {base : Heap} (T : Tx K mg) : FnOk P w K mg base (L2.CX P w) 2 (He.fAd K ("worth_of", none)) T.fd_worth_of ["web", "stream"] (spM K mg 2 [] M_worth_of) := by
  refine fn_mirD (b := B_worth_of) (st := (top 24)) (N := ["web", "stream"]) (ps := ["web", "stream"]) (m := []) (k := 1) T.F_worth_of sc_worth_of (by decide) (by decide) ?_
  intro cdv A outer s H vs E hr
  have tk := takes_of (E := E) (X := cxOf (L2.CX P w) P w K mg base ["web", "stream"] "worth_of" (defScope (top 24)) (He.fAd K ("worth_of", none)) cdv A outer s H E) rfl rfl rfl rfl
  have hp := passes_of (X := cxOf (L2.CX P w) P w K mg base ["web", "stream"] "worth_of" (defScope (top 24)) (He.fAd K ("worth_of", none)) cdv A outer s H E) rfl
  have hu1 : (cxOf (L2.CX P w) P w K mg base ["web", "stream"] "worth_of" (defScope (top 24)) (He.fAd K ("worth_of", none)) cdv A outer s H E).A.units + 1 < cLine := Nat.lt_of_le_of_lt (Nat.add_le_add_left (by decide) _) hr.units
  exact gss_one (by exact gs_ret (by exact ge_p (by exact gu_ix (ix_at hu1) os_at (by exact gv_u (by exact gu_call tk (ok_net_of T) (hr.mono (by decide)) (by exact rfl) T.g_net_of T.F_net_of.kp (b_net_of T) (by exact gus_cons (by exact gu_var (by exact pv 0)) (by exact gus_cons (by exact gu_var (by exact pv 1)) (by exact gps_nil))))) (by exact gv_u (by exact gu_fld T.fld (by exact gv_u (by exact gu_var (by exact pv 0))))))))
theorem sc_worth : FnScope ["web", "stream"] ["web", "stream"] (defScope (top 25)) := ⟨rfl, rfl, rfl, by decide +kernel, rfl, by decide +kernel, by decide +kernel⟩
theorem b_worth {K : PySem.W.Frag} {mg : Str → Option Value} (T : Tx K mg) : Binds K T.fd_worth ["web", "stream"] [] := T.F_worth.bindsN fun _ _ _ _ _ _ us hl => match us, hl with | [_, _], _ => rfl
def B_worth : MS :=
    mSeq (mExpr (mP (pCall 2 M_check_stream (psCons (pVar 0) (psCons (pVar 1) (psNil))))))
    (mRet (mP (pCall 2 M_worth_of (psCons (pVar 0) (psCons (pVar 1) (psNil))))))
def M_worth : List D → Out := fnB 2 [] B_worth
theorem ok_worth {P : Program} {w : World} {K : PySem.W.Frag} {mg : Str → Option Value} {base : Heap} (T : Tx K mg) : FnOk P w K mg base (L2.CX P w) 4 (He.fAd K ("worth", none)) T.fd_worth ["web", "stream"] (spM K mg 2 [] M_worth) := by
  refine fn_mirD (b := B_worth) (st := (top 25)) (N := ["web", "stream"]) (ps := ["web", "stream"]) (m := []) (k := 3) T.F_worth sc_worth (by decide) (by decide) ?_
  intro cdv A outer s H vs E hr
  have tk := takes_of (E := E) (X := cxOf (L2.CX P w) P w K mg base ["web", "stream"] "worth" (defScope (top 25)) (He.fAd K ("worth", none)) cdv A outer s H E) rfl rfl rfl rfl
  have hp := passes_of (X := cxOf (L2.CX P w) P w K mg base ["web", "stream"] "worth" (defScope (top 25)) (He.fAd K ("worth", none)) cdv A outer s H E) rfl
  have hu1 : (cxOf (L2.CX P w) P w K mg base ["web", "stream"] "worth" (defScope (top 25)) (He.fAd K ("worth", none)) cdv A outer s H E).A.units + 1 < cLine := Nat.lt_of_le_of_lt (Nat.add_le_add_left (by decide) _) hr.units
  exact gss_cons (by exact gs_expr (by exact ge_p (by exact gu_call tk (ok_check_stream T) (hr.mono (by decide)) (by exact rfl) T.g_check_stream T.F_check_stream.kp (b_check_stream T) (by exact gus_cons (by exact gu_var (by exact pv 0)) (by exact gus_cons (by exact gu_var (by exact pv 1)) (by exact gps_nil)))))) (by exact gss_one (by exact gs_ret (by exact ge_p (by exact gu_call tk (ok_worth_of T) (hr.mono (by decide)) (by exact rfl) T.g_worth_of T.F_worth_of.kp (b_worth_of T) (by exact gus_cons (by exact gu_var (by exact pv 0)) (by exact gus_cons (by exact gu_var (by exact pv 1)) (by exact gps_nil)))))))
theorem sc_law_worth : FnScope ["_law_plan", "_law_stream"] ["_law_plan", "_law_stream"] (defScope (top 52)) := ⟨rfl, rfl, rfl, by decide +kernel, rfl, by decide +kernel, by decide +kernel⟩
theorem b_law_worth {K : PySem.W.Frag} {mg : Str → Option Value} (T : Tx K mg) : Binds K T.fd_law_worth ["_law_plan", "_law_stream"] [] := T.F_law_worth.bindsN fun _ _ _ _ _ _ us hl => match us, hl with | [_, _], _ => rfl
def B_law_worth : MS :=
    mRet (mP (pCall 3 M_law_come (psCons (pVar 0) (psCons (pVar 1) (psCons (pOp2 fAt (pVar 0) (pC (.int 3))) (psNil))))))
def M_law_worth : List D → Out := fnB 2 [] B_law_worth
theorem ok_law_worth {P : Program} {w : World} {K : PySem.W.Frag} {mg : Str → Option Value} {base : Heap} (T : Tx K mg) : FnOk P w K mg base (L2.CX P w) 5 (He.fAd K ("_law_worth", none)) T.fd_law_worth ["_law_plan", "_law_stream"] (spM K mg 2 [] M_law_worth) := by
  refine fn_mirD (b := B_law_worth) (st := (top 52)) (N := ["_law_plan", "_law_stream"]) (ps := ["_law_plan", "_law_stream"]) (m := []) (k := 4) T.F_law_worth sc_law_worth (by decide) (by decide) ?_
  intro cdv A outer s H vs E hr
  have tk := takes_of (E := E) (X := cxOf (L2.CX P w) P w K mg base ["_law_plan", "_law_stream"] "_law_worth" (defScope (top 52)) (He.fAd K ("_law_worth", none)) cdv A outer s H E) rfl rfl rfl rfl
  have hp := passes_of (X := cxOf (L2.CX P w) P w K mg base ["_law_plan", "_law_stream"] "_law_worth" (defScope (top 52)) (He.fAd K ("_law_worth", none)) cdv A outer s H E) rfl
  have hu1 : (cxOf (L2.CX P w) P w K mg base ["_law_plan", "_law_stream"] "_law_worth" (defScope (top 52)) (He.fAd K ("_law_worth", none)) cdv A outer s H E).A.units + 1 < cLine := Nat.lt_of_le_of_lt (Nat.add_le_add_left (by decide) _) hr.units
  exact gss_one (by exact gs_ret (by exact ge_p (by exact gu_call tk (ok_law_come T) (hr.mono (by decide)) (by exact rfl) T.g__law_come T.F_law_come.kp (b_law_come T) (by exact gus_cons (by exact gu_var (by exact pv 0)) (by exact gus_cons (by exact gu_var (by exact pv 1)) (by exact gus_cons (by exact gu_ix (ix_at hu1) os_at (by exact gv_u (by exact gu_var (by exact pv 0))) (by exact gv_u (by exact gu_int))) (by exact gps_nil)))))))
theorem sc_check_house : FnScope ["web", "thing"] ["web", "thing"] (defScope (top 17)) := ⟨rfl, rfl, rfl, by decide +kernel, rfl, by decide +kernel, by decide +kernel⟩
theorem b_check_house {K : PySem.W.Frag} {mg : Str → Option Value} (T : Tx K mg) : Binds K T.fd_check_house ["web", "thing"] [] := T.F_check_house.bindsN fun _ _ _ _ _ _ us hl => match us, hl with | [_, _], _ => rfl
def B_check_house : MS :=
    mIf (mNot (tPu (pCall 2 M_is_below (psCons (pVar 1) (psCons (pFld tabF0 "many" (pVar 0)) (psNil)))))) (mRaise0 "NoHouse") (mNext)
def M_check_house : List D → Out := fnB 2 [] B_check_house
theorem ok_check_house {P : Program} {w : World} {K : PySem.W.Frag} {mg : Str → Option Value} {base : Heap} (T : Tx K mg) : FnOk P w K mg base (L2.CX P w) 4 (He.fAd K ("check_house", none)) T.fd_check_house ["web", "thing"] (spM K mg 2 [] M_check_house) := by
  refine fn_mirD (b := B_check_house) (st := (top 17)) (N := ["web", "thing"]) (ps := ["web", "thing"]) (m := []) (k := 3) T.F_check_house sc_check_house (by decide) (by decide) ?_
  intro cdv A outer s H vs E hr
  have tk := takes_of (E := E) (X := cxOf (L2.CX P w) P w K mg base ["web", "thing"] "check_house" (defScope (top 17)) (He.fAd K ("check_house", none)) cdv A outer s H E) rfl rfl rfl rfl
  have hp := passes_of (X := cxOf (L2.CX P w) P w K mg base ["web", "thing"] "check_house" (defScope (top 17)) (He.fAd K ("check_house", none)) cdv A outer s H E) rfl
  have hu1 : (cxOf (L2.CX P w) P w K mg base ["web", "thing"] "check_house" (defScope (top 17)) (He.fAd K ("check_house", none)) cdv A outer s H E).A.units + 1 < cLine := Nat.lt_of_le_of_lt (Nat.add_le_add_left (by decide) _) hr.units
  exact gss_one (by exact gs_if (by exact gt_not (by exact gt_u (by exact gu_call tk (ok_is_below T) (hr.mono (by decide)) (by exact rfl) T.g_is_below T.F_is_below.kp (b_is_below T) (by exact gus_cons (by exact gu_var (by exact pv 1)) (by exact gus_cons (by exact gu_fld T.fld (by exact gv_u (by exact gu_var (by exact pv 0)))) (by exact gps_nil)))))) (by exact gss_one (by exact gs_raise0 (by exact rfl) tk PySem.F.excBase_ValueError T.x_NoHouse.1 T.g_NoHouse T.x_NoHouse.2.1 (raises_own T.x_NoHouse.2.2.1 T.x_NoHouse.2.2.2) (by exact rfl))) (by exact gss_nil))
theorem sc_check_tie : FnScope ["web", "one", "other"] ["web", "one", "other"] (defScope (top 18)) := ⟨rfl, rfl, rfl, by decide +kernel, rfl, by decide +kernel, by decide +kernel⟩
theorem b_check_tie {K : PySem.W.Frag} {mg : Str → Option Value} (T : Tx K mg) : Binds K T.fd_check_tie ["web", "one", "other"] [] := T.F_check_tie.bindsN fun _ _ _ _ _ _ us hl => match us, hl with | [_, _, _], _ => rfl
def B_check_tie : MS :=
    mSeq (mExpr (mP (pCall 2 M_check_house (psCons (pVar 0) (psCons (pVar 1) (psNil))))))
    (mSeq (mExpr (mP (pCall 2 M_check_house (psCons (pVar 0) (psCons (pVar 2) (psNil))))))
    (mIf (tPu (pOp2 (fInF true) (pVar 2) (pOp2 fAt (pFld tabF0 "near" (pVar 0)) (pVar 1)))) (mRaise0 "NoTie") (mNext)))
def M_check_tie : List D → Out := fnB 3 [] B_check_tie
theorem ok_check_tie {P : Program} {w : World} {K : PySem.W.Frag} {mg : Str → Option Value} {base : Heap} (T : Tx K mg) : FnOk P w K mg base (L2.CX P w) 5 (He.fAd K ("check_tie", none)) T.fd_check_tie ["web", "one", "other"] (spM K mg 3 [] M_check_tie) := by
  refine fn_mirD (b := B_check_tie) (st := (top 18)) (N := ["web", "one", "other"]) (ps := ["web", "one", "other"]) (m := []) (k := 4) T.F_check_tie sc_check_tie (by decide) (by decide) ?_
  intro cdv A outer s H vs E hr
  have tk := takes_of (E := E) (X := cxOf (L2.CX P w) P w K mg base ["web", "one", "other"] "check_tie" (defScope (top 18)) (He.fAd K ("check_tie", none)) cdv A outer s H E) rfl rfl rfl rfl
  have hp := passes_of (X := cxOf (L2.CX P w) P w K mg base ["web", "one", "other"] "check_tie" (defScope (top 18)) (He.fAd K ("check_tie", none)) cdv A outer s H E) rfl
  have hu1 : (cxOf (L2.CX P w) P w K mg base ["web", "one", "other"] "check_tie" (defScope (top 18)) (He.fAd K ("check_tie", none)) cdv A outer s H E).A.units + 1 < cLine := Nat.lt_of_le_of_lt (Nat.add_le_add_left (by decide) _) hr.units
  exact gss_cons (by exact gs_expr (by exact ge_p (by exact gu_call tk (ok_check_house T) (hr.mono (by decide)) (by exact rfl) T.g_check_house T.F_check_house.kp (b_check_house T) (by exact gus_cons (by exact gu_var (by exact pv 0)) (by exact gus_cons (by exact gu_var (by exact pv 1)) (by exact gps_nil)))))) (by exact gss_cons (by exact gs_expr (by exact ge_p (by exact gu_call tk (ok_check_house T) (hr.mono (by decide)) (by exact rfl) T.g_check_house T.F_check_house.kp (b_check_house T) (by exact gus_cons (by exact gu_var (by exact pv 0)) (by exact gus_cons (by exact gu_var (by exact pv 2)) (by exact gps_nil)))))) (by exact gss_one (by exact gs_if (by exact gt_cmpU (op_notInA hu1) (os_in true) (by exact gv_u (by exact gu_var (by exact pv 2))) (by exact gv_u (by exact gu_ix (ix_at hu1) os_at (by exact gv_u (by exact gu_fld T.fld (by exact gv_u (by exact gu_var (by exact pv 0))))) (by exact gv_u (by exact gu_var (by exact pv 1))))) (by exact rfl)) (by exact gss_one (by exact gs_raise0 (by exact rfl) tk PySem.F.excBase_ValueError T.x_NoTie.1 T.g_NoTie T.x_NoTie.2.1 (raises_own T.x_NoTie.2.2.1 T.x_NoTie.2.2.2) (by exact rfl))) (by exact gss_nil))))
theorem sc_units_between : FnScope ["web", "stream", "one", "other", "tie", "units"] ["web", "stream", "one", "other"] (defScope (top 26)) := ⟨rfl, rfl, rfl, by decide +kernel, rfl, by decide +kernel, by decide +kernel⟩
theorem b_units_between {K : PySem.W.Frag} {mg : Str → Option Value} (T : Tx K mg) : Binds K T.fd_units_between ["web", "stream", "one", "other"] [] := T.F_units_between.bindsN fun _ _ _ _ _ _ us hl => match us, hl with | [_, _, _, _], _ => rfl
def B_units_between : MS :=
    mSeq (mFor (iZipD (aCons (eO (mP (pFld tabF0 "ties" (pVar 0)))) (aCons (eO (mP (pVar 1))) (aNil)))) (gUn (gOne (gSet 4) (gOne (gSet 5) (gNone)))) (mSeq (mIf (tPu (pOp2 (eqD false) (pSl fSl (pVar 4) (pNoPart) (pPart (pC (.int 2)))) (pTup (psCons (pVar 2) (psCons (pVar 3) (psNil)))))) (mRet (mP (pVar 5))) (mNext))
    (mIf (tPu (pOp2 (eqD false) (pSl fSl (pVar 4) (pNoPart) (pPart (pC (.int 2)))) (pTup (psCons (pVar 3) (psCons (pVar 2) (psNil)))))) (mRet (mP (pOp1 fNeg (pVar 5)))) (mNext))))
    (mRet (mP (pC (.int 0))))
def M_units_between : List D → Out := fnB 6 [] B_units_between
theorem ok_units_between {P : Program} {w : World} {K : PySem.W.Frag} {mg : Str → Option Value} {base : Heap} (T : Tx K mg) : FnOk P w K mg base (L2.CX P w) 2 (He.fAd K ("units_between", none)) T.fd_units_between ["web", "stream", "one", "other"] (spM K mg 4 [] M_units_between) := by
  refine fn_mirD (b := B_units_between) (st := (top 26)) (N := ["web", "stream", "one", "other", "tie", "units"]) (ps := ["web", "stream", "one", "other"]) (m := []) (k := 1) T.F_units_between sc_units_between (by decide) (by decide) ?_
  intro cdv A outer s H vs E hr
  have tk := takes_of (E := E) (X := cxOf (L2.CX P w) P w K mg base ["web", "stream", "one", "other", "tie", "units"] "units_between" (defScope (top 26)) (He.fAd K ("units_between", none)) cdv A outer s H E) rfl rfl rfl rfl
  have hp := passes_of (X := cxOf (L2.CX P w) P w K mg base ["web", "stream", "one", "other", "tie", "units"] "units_between" (defScope (top 26)) (He.fAd K ("units_between", none)) cdv A outer s H E) rfl
  have hu1 : (cxOf (L2.CX P w) P w K mg base ["web", "stream", "one", "other", "tie", "units"] "units_between" (defScope (top 26)) (He.fAd K ("units_between", none)) cdv A outer s H E).A.units + 1 < cLine := Nat.lt_of_le_of_lt (Nat.add_le_add_left (by decide) _) hr.units
  exact gss_cons (by exact gs_for (by exact hp) (by exact rfl) (by exact gi_zip (by exact rfl) T.n_zip (by exact ga_cons (by exact ge_o (by exact ge_p (by exact gu_fld T.fld (by exact gv_u (by exact gu_var (by exact pv 0)))))) (by exact ga_cons (by exact ge_o (by exact ge_p (by exact gu_var (by exact pv 1)))) (by exact ga_nil)))) (by exact gg_tup (by exact rfl) (by exact ggs_cons (by exact gg_name (by exact off_jOf rfl) (by exact sc_units_between.nd) (by exact rfl) (by first | exact Or.inl rfl | exact Or.inr rfl)) (by exact ggs_cons (by exact gg_name (by exact off_jOf rfl) (by exact sc_units_between.nd) (by exact rfl) (by first | exact Or.inl rfl | exact Or.inr rfl)) (by exact ggs_nil))) (by exact gOne_len (gOne_len (gNone_len)))) (by exact gss_cons (by exact gs_if (by exact gt_cmpU (op_eqD hr.units) os_eqD (by exact gv_u (by exact gu_sl slr_seq ss_seq (by exact gv_u (by exact gu_var (by exact pv 4))) (by exact gpp_none) (by exact gpp_some (by exact gu_int)))) (by exact gv_u (by exact gu_tup (by exact gus_cons (by exact gu_var (by exact pv 2)) (by exact gus_cons (by exact gu_var (by exact pv 3)) (by exact gps_nil))))) (by exact rfl)) (by exact gss_one (by exact gs_ret (by exact ge_p (by exact gu_var (by exact pv 5))))) (by exact gss_nil)) (by exact gss_one (by exact gs_if (by exact gt_cmpU (op_eqD hr.units) os_eqD (by exact gv_u (by exact gu_sl slr_seq ss_seq (by exact gv_u (by exact gu_var (by exact pv 4))) (by exact gpp_none) (by exact gpp_some (by exact gu_int)))) (by exact gv_u (by exact gu_tup (by exact gus_cons (by exact gu_var (by exact pv 3)) (by exact gus_cons (by exact gu_var (by exact pv 2)) (by exact gps_nil))))) (by exact rfl)) (by exact gss_one (by exact gs_ret (by exact ge_p (by exact gu_un un_neg us_neg (by exact gv_u (by exact gu_var (by exact pv 5))))))) (by exact gss_nil))))) (by exact gss_one (by exact gs_ret (by exact ge_p (by exact gu_int))))
theorem sc_room_of : FnScope ["web", "stream", "one", "other"] ["web", "stream", "one", "other"] (defScope (top 27)) := ⟨rfl, rfl, rfl, by decide +kernel, rfl, by decide +kernel, by decide +kernel⟩
theorem b_room_of {K : PySem.W.Frag} {mg : Str → Option Value} (T : Tx K mg) : Binds K T.fd_room_of ["web", "stream", "one", "other"] [] := T.F_room_of.bindsN fun _ _ _ _ _ _ us hl => match us, hl with | [_, _, _, _], _ => rfl
def B_room_of : MS :=
    mRet (mP (pOp2 fSub (pOp2 fAt (pFld tabF0 "room" (pVar 0)) (pTup (psCons (pVar 2) (psCons (pVar 3) (psNil))))) (pCall 4 M_units_between (psCons (pVar 0) (psCons (pVar 1) (psCons (pVar 2) (psCons (pVar 3) (psNil))))))))
def M_room_of : List D → Out := fnB 4 [] B_room_of
theorem ok_room_of {P : Program} {w : World} {K : PySem.W.Frag} {mg : Str → Option Value} {base : Heap} (T : Tx K mg) : FnOk P w K mg base (L2.CX P w) 3 (He.fAd K ("room_of", none)) T.fd_room_of ["web", "stream", "one", "other"] (spM K mg 4 [] M_room_of) := by
  refine fn_mirD (b := B_room_of) (st := (top 27)) (N := ["web", "stream", "one", "other"]) (ps := ["web", "stream", "one", "other"]) (m := []) (k := 2) T.F_room_of sc_room_of (by decide) (by decide) ?_
  intro cdv A outer s H vs E hr
  have tk := takes_of (E := E) (X := cxOf (L2.CX P w) P w K mg base ["web", "stream", "one", "other"] "room_of" (defScope (top 27)) (He.fAd K ("room_of", none)) cdv A outer s H E) rfl rfl rfl rfl
  have hp := passes_of (X := cxOf (L2.CX P w) P w K mg base ["web", "stream", "one", "other"] "room_of" (defScope (top 27)) (He.fAd K ("room_of", none)) cdv A outer s H E) rfl
  have hu1 : (cxOf (L2.CX P w) P w K mg base ["web", "stream", "one", "other"] "room_of" (defScope (top 27)) (He.fAd K ("room_of", none)) cdv A outer s H E).A.units + 1 < cLine := Nat.lt_of_le_of_lt (Nat.add_le_add_left (by decide) _) hr.units
  exact gss_one (by exact gs_ret (by exact ge_p (by exact gu_bin op_sub os_sub (by exact gv_u (by exact gu_ix (ix_at hu1) os_at (by exact gv_u (by exact gu_fld T.fld (by exact gv_u (by exact gu_var (by exact pv 0))))) (by exact gv_u (by exact gu_tup (by exact gus_cons (by exact gu_var (by exact pv 2)) (by exact gus_cons (by exact gu_var (by exact pv 3)) (by exact gps_nil))))))) (by exact gv_u (by exact gu_call tk (ok_units_between T) (hr.mono (by decide)) (by exact rfl) T.g_units_between T.F_units_between.kp (b_units_between T) (by exact gus_cons (by exact gu_var (by exact pv 0)) (by exact gus_cons (by exact gu_var (by exact pv 1)) (by exact gus_cons (by exact gu_var (by exact pv 2)) (by exact gus_cons (by exact gu_var (by exact pv 3)) (by exact gps_nil))))))))))
theorem sc_room : FnScope ["web", "stream", "one", "other"] ["web", "stream", "one", "other"] (defScope (top 28)) := ⟨rfl, rfl, rfl, by decide +kernel, rfl, by decide +kernel, by decide +kernel⟩
theorem b_room {K : PySem.W.Frag} {mg : Str → Option Value} (T : Tx K mg) : Binds K T.fd_room ["web", "stream", "one", "other"] [] := T.F_room.bindsN fun _ _ _ _ _ _ us hl => match us, hl with | [_, _, _, _], _ => rfl
def B_room : MS :=
    mSeq (mExpr (mP (pCall 2 M_check_stream (psCons (pVar 0) (psCons (pVar 1) (psNil))))))
    (mSeq (mExpr (mP (pCall 3 M_check_tie (psCons (pVar 0) (psCons (pVar 2) (psCons (pVar 3) (psNil)))))))
    (mRet (mP (pCall 4 M_room_of (psCons (pVar 0) (psCons (pVar 1) (psCons (pVar 2) (psCons (pVar 3) (psNil)))))))))
def M_room : List D → Out := fnB 4 [] B_room
theorem ok_room {P : Program} {w : World} {K : PySem.W.Frag} {mg : Str → Option Value} {base : Heap} (T : Tx K mg) : FnOk P w K mg base (L2.CX P w) 6 (He.fAd K ("room", none)) T.fd_room ["web", "stream", "one", "other"] (spM K mg 4 [] M_room) := by
  refine fn_mirD (b := B_room) (st := (top 28)) (N := ["web", "stream", "one", "other"]) (ps := ["web", "stream", "one", "other"]) (m := []) (k := 5) T.F_room sc_room (by decide) (by decide) ?_
  intro cdv A outer s H vs E hr
  have tk := takes_of (E := E) (X := cxOf (L2.CX P w) P w K mg base ["web", "stream", "one", "other"] "room" (defScope (top 28)) (He.fAd K ("room", none)) cdv A outer s H E) rfl rfl rfl rfl
  have hp := passes_of (X := cxOf (L2.CX P w) P w K mg base ["web", "stream", "one", "other"] "room" (defScope (top 28)) (He.fAd K ("room", none)) cdv A outer s H E) rfl
  have hu1 : (cxOf (L2.CX P w) P w K mg base ["web", "stream", "one", "other"] "room" (defScope (top 28)) (He.fAd K ("room", none)) cdv A outer s H E).A.units + 1 < cLine := Nat.lt_of_le_of_lt (Nat.add_le_add_left (by decide) _) hr.units
  exact gss_cons (by exact gs_expr (by exact ge_p (by exact gu_call tk (ok_check_stream T) (hr.mono (by decide)) (by exact rfl) T.g_check_stream T.F_check_stream.kp (b_check_stream T) (by exact gus_cons (by exact gu_var (by exact pv 0)) (by exact gus_cons (by exact gu_var (by exact pv 1)) (by exact gps_nil)))))) (by exact gss_cons (by exact gs_expr (by exact ge_p (by exact gu_call tk (ok_check_tie T) (hr.mono (by decide)) (by exact rfl) T.g_check_tie T.F_check_tie.kp (b_check_tie T) (by exact gus_cons (by exact gu_var (by exact pv 0)) (by exact gus_cons (by exact gu_var (by exact pv 2)) (by exact gus_cons (by exact gu_var (by exact pv 3)) (by exact gps_nil))))))) (by exact gss_one (by exact gs_ret (by exact ge_p (by exact gu_call tk (ok_room_of T) (hr.mono (by decide)) (by exact rfl) T.g_room_of T.F_room_of.kp (b_room_of T) (by exact gus_cons (by exact gu_var (by exact pv 0)) (by exact gus_cons (by exact gu_var (by exact pv 1)) (by exact gus_cons (by exact gu_var (by exact pv 2)) (by exact gus_cons (by exact gu_var (by exact pv 3)) (by exact gps_nil))))))))))
theorem sc_law : FnScope ["_law_script", "_law_hand_here", "_law_plan", "_law_web_here", "_law_k", "_law_stream", "_law_one", "_law_other", "_law_again", "_law_thing"] ["_law_script"] (defScope (top 57)) := ⟨rfl, rfl, rfl, by decide +kernel, rfl, by decide +kernel, by decide +kernel⟩
theorem b_law {K : PySem.W.Frag} {mg : Str → Option Value} (T : Tx K mg) : Binds K T.fd_law ["_law_script"] [] := T.F_law.bindsN fun _ _ _ _ _ _ us hl => match us, hl with | [_], _ => rfl
def B_law : MS :=
    mSeq (mAsgB 1 (mCallF 1 [] M_law_hand (aCons (eO (mP (pVar 0))) (aNil))))
    (mSeq (mAsg 2 (mCall 2 [true] M_law_web (aCons (oOwn 1) (aCons (eO (mCall 1 [true] M_law_sizes (aCons (oOwn 1) (aNil)))) (aNil)))))
    (mSeq (mAsg 3 (mP (pCall 1 M_law_web_of (psCons (pVar 2) (psNil)))))
    (mSeq (mFor (iRange1 (aCons (eO (mP (pC (.int 4)))) (aNil))) (gSet 4) (mSeq (mAsg 5 (mCall 2 [true] M_law_some_stream (aCons (oOwn 1) (aCons (eO (mP (pVar 2))) (aNil)))))
    (mSeq (mIf (mOr (tPu (pOp2 fIsNot (pCall 2 M_is_stream (psCons (pVar 3) (psCons (pVar 5) (psNil)))) (pC (.bl true)))) (mNot (tPu (pCall 2 M_law_is_stream (psCons (pVar 2) (psCons (pVar 5) (psNil))))))) (mRet (mP (pC (.bl false)))) (mNext))
    (mSeq (mIf (mNot (tPu (pCall 2 (M_law_same 12) (psCons (pCall 2 M_worth (psCons (pVar 3) (psCons (pVar 5) (psNil)))) (psCons (pCall 2 M_law_worth (psCons (pVar 2) (psCons (pVar 5) (psNil)))) (psNil)))))) (mRet (mP (pC (.bl false)))) (mNext))
    (mSeq (mFor (iRange1 (aCons (eO (mP (pOp2 fAt (pVar 2) (pC (.int 0))))) (aNil))) (gSet 6) (mFor (iSeq (mP (pCall 2 M_law_near (psCons (pVar 2) (psCons (pVar 6) (psNil)))))) (gSet 7) (mIf (mNot (tPu (pCall 2 (M_law_same 12) (psCons (pCall 4 M_room (psCons (pVar 3) (psCons (pVar 5) (psCons (pVar 6) (psCons (pVar 7) (psNil)))))) (psCons (pCall 4 M_law_room (psCons (pVar 2) (psCons (pVar 5) (psCons (pVar 6) (psCons (pVar 7) (psNil)))))) (psNil)))))) (mRet (mP (pC (.bl false)))) (mNext))))
    (mFor (iRange1 (aCons (eO (mP (pC (.int 3)))) (aNil))) (gSet 8) (mSeq (mAsg 9 (mCall 3 [true] M_law_bent (aCons (oOwn 1) (aCons (eO (mP (pVar 2))) (aCons (eO (mP (pVar 5))) (aNil))))))
    (mIf (mNot (tPu (pCall 2 (M_law_same 12) (psCons (pCall 2 M_is_stream (psCons (pVar 3) (psCons (pVar 9) (psNil)))) (psCons (pCall 2 M_law_is_stream (psCons (pVar 2) (psCons (pVar 9) (psNil)))) (psNil)))))) (mRet (mP (pC (.bl false)))) (mNext)))))))))
    (mRet (mP (pCall 2 (M_law_same 12) (psCons (pTup (psCons (pFld tabF0 "many" (pVar 3)) (psCons (pFld tabF0 "ties" (pVar 3)) (psCons (pFld tabF0 "spring" (pVar 3)) (psCons (pFld tabF0 "mouth" (pVar 3)) (psNil)))))) (psCons (pVar 2) (psNil)))))))))
def M_law : List D → Out := fnB 10 [] B_law
theorem ok_law {P : Program} {w : World} {K : PySem.W.Frag} {mg : Str → Option Value} {base : Heap} (T : Tx K mg) : FnOk P w K mg base (L2.CX P w) 15 (He.fAd K ("law", none)) T.fd_law ["_law_script"] (spM K mg 1 [] M_law) := by
  refine fn_mirD (b := B_law) (st := (top 57)) (N := ["_law_script", "_law_hand_here", "_law_plan", "_law_web_here", "_law_k", "_law_stream", "_law_one", "_law_other", "_law_again", "_law_thing"]) (ps := ["_law_script"]) (m := []) (k := 14) T.F_law sc_law (by decide) (by decide) ?_
  intro cdv A outer s H vs E hr
  have tk := takes_of (E := E) (X := cxOf (L2.CX P w) P w K mg base ["_law_script", "_law_hand_here", "_law_plan", "_law_web_here", "_law_k", "_law_stream", "_law_one", "_law_other", "_law_again", "_law_thing"] "law" (defScope (top 57)) (He.fAd K ("law", none)) cdv A outer s H E) rfl rfl rfl rfl
  have hp := passes_of (X := cxOf (L2.CX P w) P w K mg base ["_law_script", "_law_hand_here", "_law_plan", "_law_web_here", "_law_k", "_law_stream", "_law_one", "_law_other", "_law_again", "_law_thing"] "law" (defScope (top 57)) (He.fAd K ("law", none)) cdv A outer s H E) rfl
  have hu1 : (cxOf (L2.CX P w) P w K mg base ["_law_script", "_law_hand_here", "_law_plan", "_law_web_here", "_law_k", "_law_stream", "_law_one", "_law_other", "_law_again", "_law_thing"] "law" (defScope (top 57)) (He.fAd K ("law", none)) cdv A outer s H E).A.units + 1 < cLine := Nat.lt_of_le_of_lt (Nat.add_le_add_left (by decide) _) hr.units
  exact gss_cons (by exact gs_setB (by exact off_jOf rfl) (by exact sc_law.nd) (by exact rfl) (by first | exact Or.inl rfl | exact Or.inr rfl) (by exact gf_call tk (ok_law_hand T) (hr.mono (by decide)) (by exact rfl) T.g__law_hand T.F_law_hand.kp (b_law_hand T) (by exact ga_cons (by exact ge_o (by exact ge_p (by exact gu_var (by exact pv 0)))) (by exact ga_nil)))) (by exact gss_cons (by exact gs_set (by exact off_jOf rfl) (by exact sc_law.nd) (by exact rfl) (by first | exact Or.inl rfl | exact Or.inr rfl) (by exact ge_call tk (ok_law_web T) (hr.mono (by decide)) (by exact rfl) T.g__law_web T.F_law_web.kp (b_law_web T) (by exact ga_cons (by exact go_own (by exact pv 1)) (by exact ga_cons (by exact ge_o (by exact ge_call tk (ok_law_sizes T) (hr.mono (by decide)) (by exact rfl) T.g__law_sizes T.F_law_sizes.kp (b_law_sizes T) (by exact ga_cons (by exact go_own (by exact pv 1)) (by exact ga_nil)))) (by exact ga_nil))))) (by exact gss_cons (by exact gs_set (by exact off_jOf rfl) (by exact sc_law.nd) (by exact rfl) (by first | exact Or.inl rfl | exact Or.inr rfl) (by exact ge_p (by exact gu_call tk (ok_law_web_of T) (hr.mono (by decide)) (by exact rfl) T.g__law_web_of T.F_law_web_of.kp (b_law_web_of T) (by exact gus_cons (by exact gu_var (by exact pv 2)) (by exact gps_nil))))) (by exact gss_cons (by exact gs_for (by exact hp) (by exact rfl) (by exact gi_range1 (by exact rfl) T.n_range (by exact ga_cons (by exact ge_o (by exact ge_p (by exact gu_int))) (by exact ga_nil))) (by exact gg_name (by exact off_jOf rfl) (by exact sc_law.nd) (by exact rfl) (by first | exact Or.inl rfl | exact Or.inr rfl)) (by exact gss_cons (by exact gs_set (by exact off_jOf rfl) (by exact sc_law.nd) (by exact rfl) (by first | exact Or.inl rfl | exact Or.inr rfl) (by exact ge_call tk (ok_law_some_stream T) (hr.mono (by decide)) (by exact rfl) T.g__law_some_stream T.F_law_some_stream.kp (b_law_some_stream T) (by exact ga_cons (by exact go_own (by exact pv 1)) (by exact ga_cons (by exact ge_o (by exact ge_p (by exact gu_var (by exact pv 2)))) (by exact ga_nil))))) (by exact gss_cons (by exact gs_if (by exact PW.pt (by exact gw_or (by exact gt_cmpU op_isNotA os_isNotA (by exact gv_u (by exact gu_call tk (ok_is_stream T) (hr.mono (by decide)) (by exact rfl) T.g_is_stream T.F_is_stream.kp (b_is_stream T) (by exact gus_cons (by exact gu_var (by exact pv 3)) (by exact gus_cons (by exact gu_var (by exact pv 5)) (by exact gps_nil))))) (by exact gv_u (by exact gu_bl)) (by exact rfl)) (by exact gw_or1 (by exact gt_not (by exact gt_u (by exact gu_call tk (ok_law_is_stream T) (hr.mono (by decide)) (by exact rfl) T.g__law_is_stream T.F_law_is_stream.kp (b_law_is_stream T) (by exact gus_cons (by exact gu_var (by exact pv 2)) (by exact gus_cons (by exact gu_var (by exact pv 5)) (by exact gps_nil))))))))) (by exact gss_one (by exact gs_ret (by exact ge_p (by exact gu_bl)))) (by exact gss_nil)) (by exact gss_cons (by exact gs_if (by exact gt_not (by exact gt_u (by exact gu_call tk (ok_law_same T 12) (hr.mono (by decide)) (by exact rfl) T.g__law_same T.F_law_same.kp (b_law_same T) (by exact gus_cons (by exact gu_call tk (ok_worth T) (hr.mono (by decide)) (by exact rfl) T.g_worth T.F_worth.kp (b_worth T) (by exact gus_cons (by exact gu_var (by exact pv 3)) (by exact gus_cons (by exact gu_var (by exact pv 5)) (by exact gps_nil)))) (by exact gus_cons (by exact gu_call tk (ok_law_worth T) (hr.mono (by decide)) (by exact rfl) T.g__law_worth T.F_law_worth.kp (b_law_worth T) (by exact gus_cons (by exact gu_var (by exact pv 2)) (by exact gus_cons (by exact gu_var (by exact pv 5)) (by exact gps_nil)))) (by exact gps_nil)))))) (by exact gss_one (by exact gs_ret (by exact ge_p (by exact gu_bl)))) (by exact gss_nil)) (by exact gss_cons (by exact gs_for (by exact hp) (by exact rfl) (by exact gi_range1 (by exact rfl) T.n_range (by exact ga_cons (by exact ge_o (by exact ge_p (by exact gu_ix (ix_at hu1) os_at (by exact gv_u (by exact gu_var (by exact pv 2))) (by exact gv_u (by exact gu_int))))) (by exact ga_nil))) (by exact gg_name (by exact off_jOf rfl) (by exact sc_law.nd) (by exact rfl) (by first | exact Or.inl rfl | exact Or.inr rfl)) (by exact gss_one (by exact gs_for (by exact hp) (by exact rfl) (by exact gi_seq (by exact ge_p (by exact gu_call tk (ok_law_near T) (hr.mono (by decide)) (by exact rfl) T.g__law_near T.F_law_near.kp (b_law_near T) (by exact gus_cons (by exact gu_var (by exact pv 2)) (by exact gus_cons (by exact gu_var (by exact pv 6)) (by exact gps_nil)))))) (by exact gg_name (by exact off_jOf rfl) (by exact sc_law.nd) (by exact rfl) (by first | exact Or.inl rfl | exact Or.inr rfl)) (by exact gss_one (by exact gs_if (by exact gt_not (by exact gt_u (by exact gu_call tk (ok_law_same T 12) (hr.mono (by decide)) (by exact rfl) T.g__law_same T.F_law_same.kp (b_law_same T) (by exact gus_cons (by exact gu_call tk (ok_room T) (hr.mono (by decide)) (by exact rfl) T.g_room T.F_room.kp (b_room T) (by exact gus_cons (by exact gu_var (by exact pv 3)) (by exact gus_cons (by exact gu_var (by exact pv 5)) (by exact gus_cons (by exact gu_var (by exact pv 6)) (by exact gus_cons (by exact gu_var (by exact pv 7)) (by exact gps_nil)))))) (by exact gus_cons (by exact gu_call tk (ok_law_room T) (hr.mono (by decide)) (by exact rfl) T.g__law_room T.F_law_room.kp (b_law_room T) (by exact gus_cons (by exact gu_var (by exact pv 2)) (by exact gus_cons (by exact gu_var (by exact pv 5)) (by exact gus_cons (by exact gu_var (by exact pv 6)) (by exact gus_cons (by exact gu_var (by exact pv 7)) (by exact gps_nil)))))) (by exact gps_nil)))))) (by exact gss_one (by exact gs_ret (by exact ge_p (by exact gu_bl)))) (by exact gss_nil)))))) (by exact gss_one (by exact gs_for (by exact hp) (by exact rfl) (by exact gi_range1 (by exact rfl) T.n_range (by exact ga_cons (by exact ge_o (by exact ge_p (by exact gu_int))) (by exact ga_nil))) (by exact gg_name (by exact off_jOf rfl) (by exact sc_law.nd) (by exact rfl) (by first | exact Or.inl rfl | exact Or.inr rfl)) (by exact gss_cons (by exact gs_set (by exact off_jOf rfl) (by exact sc_law.nd) (by exact rfl) (by first | exact Or.inl rfl | exact Or.inr rfl) (by exact ge_call tk (ok_law_bent T) (hr.mono (by decide)) (by exact rfl) T.g__law_bent T.F_law_bent.kp (b_law_bent T) (by exact ga_cons (by exact go_own (by exact pv 1)) (by exact ga_cons (by exact ge_o (by exact ge_p (by exact gu_var (by exact pv 2)))) (by exact ga_cons (by exact ge_o (by exact ge_p (by exact gu_var (by exact pv 5)))) (by exact ga_nil)))))) (by exact gss_one (by exact gs_if (by exact gt_not (by exact gt_u (by exact gu_call tk (ok_law_same T 12) (hr.mono (by decide)) (by exact rfl) T.g__law_same T.F_law_same.kp (b_law_same T) (by exact gus_cons (by exact gu_call tk (ok_is_stream T) (hr.mono (by decide)) (by exact rfl) T.g_is_stream T.F_is_stream.kp (b_is_stream T) (by exact gus_cons (by exact gu_var (by exact pv 3)) (by exact gus_cons (by exact gu_var (by exact pv 9)) (by exact gps_nil)))) (by exact gus_cons (by exact gu_call tk (ok_law_is_stream T) (hr.mono (by decide)) (by exact rfl) T.g__law_is_stream T.F_law_is_stream.kp (b_law_is_stream T) (by exact gus_cons (by exact gu_var (by exact pv 2)) (by exact gus_cons (by exact gu_var (by exact pv 9)) (by exact gps_nil)))) (by exact gps_nil)))))) (by exact gss_one (by exact gs_ret (by exact ge_p (by exact gu_bl)))) (by exact gss_nil))))))))))) (by exact gss_one (by exact gs_ret (by exact ge_p (by exact gu_call tk (ok_law_same T 12) (hr.mono (by decide)) (by exact rfl) T.g__law_same T.F_law_same.kp (b_law_same T) (by exact gus_cons (by exact gu_tup (by exact gus_cons (by exact gu_fld T.fld (by exact gv_u (by exact gu_var (by exact pv 3)))) (by exact gus_cons (by exact gu_fld T.fld (by exact gv_u (by exact gu_var (by exact pv 3)))) (by exact gus_cons (by exact gu_fld T.fld (by exact gv_u (by exact gu_var (by exact pv 3)))) (by exact gus_cons (by exact gu_fld T.fld (by exact gv_u (by exact gu_var (by exact pv 3)))) (by exact gps_nil)))))) (by exact gus_cons (by exact gu_var (by exact pv 2)) (by exact gps_nil))))))))))
end Law
/-! Ev: the mirrors' values, step by step (simp lemmas that go forward alone). -/
namespace Mir
open PySem PySem.Spec PyProof.Rows L2
section
variable {s s1 : En} {a b c : MP} {f : D → D → Option D} {d x y : D} {k : D → Pr}
@[simp] theorem ev_bind_ok : (Pr.ok d).bind k = k d := rfl
@[simp] theorem ev_bind_ex {n : Str} {fs : List (Str × D)} : (Pr.ex n fs).bind k = .ex n fs := rfl
@[simp] theorem ev_of_some : Pr.of (some d) = .ok d := rfl
@[simp] theorem ev_pC : pC d s = .ok d := rfl
/-- a slot's datum -/
def slD : Option Sl → Pr
  | some (.d d) => .ok d
  | _ => .bad
def slV : Option Sl → Pr
  | some (.d d) => .ok d
  | some (.b d) => .ok d
  | _ => .bad
@[simp] theorem ev_slD : slD (some (.d d)) = .ok d := rfl
@[simp] theorem ev_slV : slV (some (.d d)) = .ok d := rfl
@[simp] theorem ev_slB : slV (some (.b d)) = .ok d := rfl
@[simp] theorem ev_pVar {i : Nat} : pVar i s = slD s[i]? := rfl
@[simp] theorem ev_pVar' {i : Nat} : pVar' i s = slV s[i]? := rfl
@[simp] theorem ev_op2 : pOp2 f a b s = (a s).bind fun x => (b s).bind fun y => .of (f x y) := rfl
@[simp] theorem ev_op1 {g : D → Option D} : pOp1 g a s = (a s).bind fun x => .of (g x) := rfl
/-- a flag, then -/
def Pr.flag (r : Pr) (t e : Pr) : Pr := r.bind fun x => match x with
  | .bl true => t
  | .bl false => e
  | _ => .bad
@[simp] theorem ev_flag_t {t e : Pr} : (Pr.ok (.bl true)).flag t e = t := rfl
@[simp] theorem ev_flag_f {t e : Pr} : (Pr.ok (.bl false)).flag t e = e := rfl
theorem ev_and : pAnd a b s = (a s).flag (b s) (.ok (.bl false)) := rfl
theorem ev_or : pOr a b s = (a s).flag (.ok (.bl true)) (b s) := rfl
theorem ev_and_t (h : a s = .ok (.bl true)) : pAnd a b s = b s := by rw [ev_and, h]; rfl
theorem ev_and_f (h : a s = .ok (.bl false)) : pAnd a b s = .ok (.bl false) := by rw [ev_and, h]; rfl
def Pr.neg (r : Pr) : Pr := r.bind fun x => match x with
  | .bl c => .ok (.bl (!c))
  | _ => .bad
@[simp] theorem ev_neg {c : Bool} : (Pr.ok (.bl c)).neg = .ok (.bl (!c)) := rfl
@[simp] theorem ev_not : pNot a s = (a s).neg := rfl
/-- lists of values -/
@[simp] theorem ev_cons_ok {d : D} {ds : List D} : (Pr.ok d).cons (.ok ds) = .ok (d :: ds) := rfl
@[simp] theorem ev_psNil : psNil s = .ok [] := rfl
@[simp] theorem ev_psCons {m : MPs} : psCons a m s = (a s).cons (m s) := rfl
@[simp] theorem ev_binds_ok {ds : List D} {g : List D → Pr} : (Prs.ok ds).bind g = g ds := rfl
@[simp] theorem ev_fn {g : List D → Option D} {m : MPs} : pFn g m s = (m s).bind fun ds => .of (g ds) := rfl
def szTup (ds : List D) : Pr := if ds.length ≤ sizeLine then .ok (.tup ds) else .bad
def szLst (ds : List D) : Pr := if ds.length ≤ sizeLine then .ok (.lst ds) else .bad
@[simp] theorem ev_tup {m : MPs} : pTup m s = (m s).bind szTup := rfl
@[simp] theorem ev_lst {m : MPs} : pLst m s = (m s).bind szLst := rfl
theorem szTup_ok {ds : List D} (h : ds.length ≤ 1000) : szTup ds = .ok (.tup ds) := if_pos (Nat.le_trans h (by rw [sizeLine_eq]; decide))
theorem szLst_ok {ds : List D} (h : ds.length ≤ 1000) : szLst ds = .ok (.lst ds) := if_pos (Nat.le_trans h (by rw [sizeLine_eq]; decide))
/-- what a call tells -/
def outV : Out → Pr
  | .rt d _ => .ok d
  | .ex c fs _ => .ex c fs
  | _ => .bad
@[simp] theorem ev_outV {r : En} : outV (.rt d r) = .ok d := rfl
@[simp] theorem ev_outX {n : Str} {fs : List (Str × D)} {r : En} : outV (.ex n fs r) = .ex n fs := rfl
theorem ev_call {n : Nat} {g : List D → Out} {m : MPs} {ds : List D} (h : m s = .ok ds) (hn : ds.length = n) : pCall n g m s = outV (g ds) := by
  unfold pCall
  rw [h]
  show (if ds.length = n then _ else _) = _
  rw [if_pos hn]
  cases g ds <;> rfl

/-! ### with the environment -/
def Pr.put (r : Pr) (s : En) : Res D := match r with
  | .ok d => .ok d s
  | .ex c fs => .ex c fs s
  | .bad => .bad
@[simp] theorem ev_mP : mP a s = (a s).put s := rfl
@[simp] theorem ev_put : (Pr.ok d).put s = .ok d s := rfl
@[simp] theorem ev_putX {n : Str} {fs : List (Str × D)} : (Pr.ex n fs).put s = .ex n fs s := rfl
@[simp] theorem ev_rbind {α β : Type} {x : α} {g : α → En → Res β} : (Res.ok x s).bind g = g x s := rfl
@[simp] theorem ev_rbindX {α β : Type} {n : Str} {fs : List (Str × D)} {g : α → En → Res β} : (Res.ex n fs s).bind g = .ex n fs s := rfl
@[simp] theorem ev_out {α : Type} {x : α} {g : α → En → Out} : (Res.ok x s).out g = g x s := rfl
@[simp] theorem ev_outEx {α : Type} {n : Str} {fs : List (Str × D)} {g : α → En → Out} : (Res.ex n fs s).out g = .ex n fs s := rfl
def flagR (r : Res D) : Res Bool := r.bind fun d s => match d with
  | .bl b => .ok b s
  | _ => .bad
@[simp] theorem ev_flagR {b : Bool} : flagR (.ok (.bl b) s) = .ok b s := rfl
@[simp] theorem ev_tPu : tPu a s = flagR ((a s).put s) := rfl
@[simp] theorem ev_mTest {m : ME} : mTest m s = flagR (m s) := rfl
/-- branches -/
def cIf {α : Type} (bad : α) (r : Res Bool) (ex : Str → List (Str × D) → En → α) (t e : En → α) : α := match r with
  | .ok true s => t s
  | .ok false s => e s
  | .ex c fs s => ex c fs s
  | .bad => bad
@[simp] theorem cIf_t {α : Type} {bad : α} {ex : Str → List (Str × D) → En → α} {t e : En → α} : cIf bad (.ok true s) ex t e = t s := rfl
@[simp] theorem cIf_f {α : Type} {bad : α} {ex : Str → List (Str × D) → En → α} {t e : En → α} : cIf bad (.ok false s) ex t e = e s := rfl
@[simp] theorem ev_if {m : MT} {p q : MS} : mIf m p q s = cIf .bad (m s) .ex p q := by
  unfold mIf cIf Res.out
  cases m s with
  | ok b s => cases b <;> rfl
  | ex c fs s => rfl
  | bad => rfl
@[simp] theorem ev_mAnd {m n : MT} : mAnd m n s = cIf .bad (m s) .ex n (.ok false) := by
  unfold mAnd cIf Res.bind
  cases m s with
  | ok b s => cases b <;> rfl
  | ex c fs s => rfl
  | bad => rfl
@[simp] theorem ev_mOr {m n : MT} : mOr m n s = cIf .bad (m s) .ex (.ok true) n := by
  unfold mOr cIf Res.bind
  cases m s with
  | ok b s => cases b <;> rfl
  | ex c fs s => rfl
  | bad => rfl
def negR (r : Res Bool) : Res Bool := r.bind fun c s => .ok (!c) s
@[simp] theorem ev_negR {b : Bool} : negR (.ok b s) = .ok (!b) s := rfl
@[simp] theorem ev_mNot {m : MT} : mNot m s = negR (m s) := rfl
/-- one behind another -/
def oSeq (o : Out) (b : MS) : Out := match o with
  | .nx s1 => b s1
  | o => o
@[simp] theorem ev_seq {p q : MS} : mSeq p q s = oSeq (p s) q := rfl
@[simp] theorem oSeq_nx {q : MS} : oSeq (.nx s) q = q s := rfl
@[simp] theorem oSeq_rt {q : MS} : oSeq (.rt d s) q = .rt d s := rfl
@[simp] theorem oSeq_ro {q : MS} : oSeq (.ro d s) q = .ro d s := rfl
@[simp] theorem oSeq_bk {q : MS} : oSeq (.bk s) q = .bk s := rfl
@[simp] theorem oSeq_ct {q : MS} : oSeq (.ct s) q = .ct s := rfl
@[simp] theorem oSeq_ex {q : MS} {n : Str} {fs : List (Str × D)} : oSeq (.ex n fs s) q = .ex n fs s := rfl
@[simp] theorem ev_next : mNext s = .nx s := rfl
@[simp] theorem ev_asg {i : Nat} {m : ME} : mAsg i m s = (m s).out fun d s1 => .nx (s1.set i (.d d)) := rfl
@[simp] theorem ev_asgB {i : Nat} {m : ME} : mAsgB i m s = (m s).out fun d s1 => .nx (s1.set i (.b d)) := rfl
@[simp] theorem ev_expr {m : ME} : mExpr m s = (m s).out fun _ s1 => .nx s1 := rfl
@[simp] theorem ev_ret {m : ME} : mRet m s = (m s).out fun d s1 => .rt d s1 := rfl
@[simp] theorem ev_retF {m : ME} : mRetF m s = (m s).out fun d s1 => .ro d s1 := rfl
@[simp] theorem ev_retN : mRetN s = .rt .non s := rfl
@[simp] theorem ev_raise0 {n : Str} : mRaise0 n s = .ex n [] s := rfl
@[simp] theorem ev_raise1 {n g : Str} {m : ME} : mRaise1 n g m s = (m s).out fun d s1 => .ex n [(g, d)] s1 := rfl
/-- x[k] = e of the own list in slot i -/
def stB (s1 : En) (i : Nat) (c k d : D) : Out := match stI c k d with
  | some c' => .nx (s1.set i (.b c'))
  | none => .bad
theorem ev_setI {tab : Str → Str → Bool} {i : Nat} {mk : MP} {me : ME} {d c k c' : D} (h1 : me s = .ok d s1) (h2 : s1[i]? = some (.b c)) (h3 : mk s1 = .ok k) (h4 : stI c k d = some c') : mSetI tab i [] mk me s = .nx (s1.set i (.b c')) := by
  unfold mSetI
  rw [h1]
  show (match atP tab i [] s1 with | some (d0, c) => _ | none => _) = _
  have : atP tab i [] s1 = some (c, c) := by unfold atP; rw [h2]; rfl
  rw [this]
  show Pr.out (mk s1) s1 _ = _
  rw [h3]
  show (match stI c k d with | some c' => _ | none => _) = _
  rw [h4]
  show Out.nx (s1.set i (.b (putD c [] c'))) = _
  have : putD c [] c' = c' := by cases c <;> rfl
  rw [this]
def setAt (i : Nat) (r : Pr) (o : Option Sl) (d : D) (s1 : En) : Out := match o with
  | some (.b c) => (match r with
    | .ok k => stB s1 i c k d
    | .ex n fs => .ex n fs s1
    | .bad => .bad)
  | _ => .bad
@[simp] theorem ev_setAt {i : Nat} {c k d : D} : setAt i (.ok k) (some (.b c)) d s = stB s i c k d := rfl
@[simp] theorem ev_set {tab : Str → Str → Bool} {i : Nat} {mk : MP} {me : ME} : mSetI tab i [] mk me s = (me s).out fun d s1 => setAt i (mk s1) s1[i]? d s1 := by
  unfold mSetI
  congr 1
  funext d s1
  unfold setAt
  cases e : s1[i]? with
  | none => simp [atP, e]
  | some y =>
    cases y with
    | b c =>
      have h : atP tab i [] s1 = some (c, c) := by unfold atP; rw [e]; rfl
      rw [h]
      dsimp only
      cases mk s1 with
      | ok k =>
        show (match stI c k d with | some c' => _ | none => _) = stB s1 i c k d
        unfold stB
        cases stI c k d with
        | none => rfl
        | some c' =>
          have : putD c [] c' = c' := by cases c <;> rfl
          show Out.nx (s1.set i (.b (putD c [] c'))) = _
          rw [this]
      | ex n fs => rfl
      | bad => rfl
    | _ => simp [atP, e]
def Pr.flat (r : Pr) : Pr := r.bind fun d => match keyT d with
  | some _ => .bad
  | none => .ok d
@[simp] theorem ev_pFlat : pFlat a s = (a s).flat := rfl
@[simp] theorem ev_flatI {i : Int} : (Pr.ok (.int i)).flat = .ok (.int i) := rfl
@[simp] theorem ev_flatS {x : Str} : (Pr.ok (.str x)).flat = .ok (.str x) := rfl
/-! ### functions at values -/
variable {i j : Int}
@[simp] theorem v_add : fAdd (.int i) (.int j) = some (.int (i + j)) := rfl
@[simp] theorem v_sub : fSub (.int i) (.int j) = some (.int (i - j)) := rfl
@[simp] theorem v_lt : fLt (.int i) (.int j) = some (.bl (decide (i < j))) := rfl
@[simp] theorem v_gt : fGt (.int i) (.int j) = some (.bl (decide (j < i))) := rfl
@[simp] theorem v_ge : fGe (.int i) (.int j) = some (.bl (decide (j ≤ i))) := rfl
@[simp] theorem v_leA : fLeA (.int i) (.int j) = some (.bl (decide (i ≤ j))) := rfl
@[simp] theorem v_neg : fNeg (.int i) = some (.int (-i)) := rfl
@[simp] theorem v_int : fInt [.int i] = some (.int i) := rfl
@[simp] theorem v_intB {b : Bool} : fInt [.bl b] = some (.int (b2i b)) := rfl
@[simp] theorem v_lenL {ds : List D} : fLen [.lst ds] = some (.int ds.length) := rfl
@[simp] theorem v_lenT {ds : List D} : fLen [.tup ds] = some (.int ds.length) := rfl
@[simp] theorem v_eqI : eqD false (.int i) (.int j) = some (.bl (decide (i = j))) := by
  show some (D.bl (xor false (PyData.eqv (.int i) (.int j)))) = _
  rw [Bool.false_xor]
  congr 2
@[simp] theorem v_neI : eqD true (.int i) (.int j) = some (.bl (!decide (i = j))) := by
  show some (D.bl (xor true (PyData.eqv (.int i) (.int j)))) = _
  rw [Bool.true_xor]
  congr 3
theorem v_mul (h : (-(2 ^ 64) < i ∧ i < 2 ^ 64) ∨ (-(2 ^ 64) < j ∧ j < 2 ^ 64)) : fMul (.int i) (.int j) = some (.int (i * j)) := if_pos h
theorem v_div (h : j ≠ 0 ∧ j.natAbs < 1073741824) : fDiv (.int i) (.int j) = some (.int (i.fdiv j)) := if_pos h
theorem v_mod (h : j ≠ 0) : fMod (.int i) (.int j) = some (.int (i.fmod j)) := if_pos h
theorem fmodE (i : Int) {j : Int} (h : 0 < j) : i.fmod j = i % j := Int.fmod_eq_emod_of_nonneg i (Int.le_of_lt h)
theorem fdivE (i : Int) {j : Int} (h : 0 < j) : i.fdiv j = i / j := Int.fdiv_eq_ediv_of_nonneg i (Int.le_of_lt h)
/-! ### operands, calls -/
def ownR (o : Option Sl) (i : Nat) (s : En) : Res AV := match o with
  | some (.b _) => .ok (.own i) s
  | _ => .bad
@[simp] theorem ev_ownR {i : Nat} {d : D} : ownR (some (.b d)) i s = .ok (.own i) s := rfl
@[simp] theorem ev_oOwn {i : Nat} : oOwn i s = ownR s[i]? i s := by
  unfold oOwn ownR
  cases s[i]? with
  | none => rfl
  | some y => cases y <;> rfl
@[simp] theorem ev_eO {m : ME} : eO m s = (m s).bind fun d s => .ok (.d d) s := rfl
@[simp] theorem ev_aNil : aNil s = .ok [] s := rfl
@[simp] theorem ev_aCons {o : MO} {r : MA} : aCons o r s = (o s).bind fun a s1 => (r s1).bind fun as s2 => .ok (a :: as) s2 := rfl
def Out.back1 (o : Out) (i : Nat) (s : En) : Res D := match o with
  | .rt d (.b e :: _) => .ok d (s.set i (.b e))
  | .rt d _ => .ok d (s.set i .no)
  | .ex c fs (.b e :: _) => .ex c fs (s.set i (.b e))
  | .ex c fs _ => .ex c fs (s.set i .no)
  | _ => .bad
@[simp] theorem ev_back1 {i : Nat} {d e : D} {r : En} : Out.back1 (.rt d (.b e :: r)) i s = .ok d (s.set i (.b e)) := rfl
@[simp] theorem ev_back1x {i : Nat} {n : Str} {fs : List (Str × D)} {e : D} {r : En} : Out.back1 (.ex n fs (.b e :: r)) i s = .ex n fs (s.set i (.b e)) := rfl
def callR (n : Nat) (m : List Bool) (f : List D → Out) (as : List AV) (s1 : En) : Res D := match argD s1 m as with
  | some ds => if ds.length = n ∧ (lent as).Nodup then match f ds with
    | .rt d r => .ok d (back s1 as r)
    | .ex c fs r => .ex c fs (back s1 as r)
    | _ => .bad
    else .bad
  | none => .bad
@[simp] theorem ev_mCall {n : Nat} {m : List Bool} {f : List D → Out} {as : MA} : mCall n m f as s = (as s).bind (callR n m f) := rfl
def Out.get0 (o : Out) (s : En) : Res D := match o with
  | .rt d _ => .ok d s
  | .ex c fs _ => .ex c fs s
  | _ => .bad
@[simp] theorem ev_get0 {d : D} {r : En} : Out.get0 (.rt d r) s = .ok d s := rfl
@[simp] theorem ev_get0x {n : Str} {fs : List (Str × D)} {r : En} : Out.get0 (.ex n fs r) s = .ex n fs s := rfl
def withB {α : Type} (bad : α) (o : Option Sl) (k : D → α) : α := match o with
  | some (.b d) => k d
  | _ => bad
@[simp] theorem ev_withB {α : Type} {bad : α} {d : D} {k : D → α} : withB bad (some (.b d)) k = k d := rfl
@[simp] theorem ev_call1 {i : Nat} {f : List D → Out} : callR 1 [true] f [.own i] s = withB .bad s[i]? fun d => (f [d]).back1 i s := by
  unfold callR
  cases e : s[i]? with
  | none => simp [argD, e, withB]
  | some y =>
    cases y with
    | b d =>
      simp [argD, e, withB, lent]
      cases f [d] with
      | rt x r => cases r with
        | nil => simp [back, Out.back1]
        | cons z r => cases z <;> simp [back, Out.back1]
      | ex n fs r => cases r with
        | nil => simp [back, Out.back1]
        | cons z r => cases z <;> simp [back, Out.back1]
      | _ => rfl
    | _ => simp [argD, e, withB]
@[simp] theorem ev_call2 {i : Nat} {f : List D → Out} {x : D} : callR 2 [true] f [.own i, .d x] s = withB .bad s[i]? fun d => (f [d, x]).back1 i s := by
  unfold callR
  cases e : s[i]? with
  | none => simp [argD, e, withB]
  | some y =>
    cases y with
    | b d =>
      simp [argD, e, withB, lent]
      cases f [d, x] with
      | rt x r => cases r with
        | nil => simp [back, Out.back1]
        | cons z r => cases z <;> cases r <;> simp [back, Out.back1]
      | ex n fs r => cases r with
        | nil => simp [back, Out.back1]
        | cons z r => cases z <;> cases r <;> simp [back, Out.back1]
      | _ => rfl
    | _ => simp [argD, e, withB]
/-- what an operand holds, for an operation -/
def Out.opt (o : Option D) (s : En) : Res D := ret o s
@[simp] theorem ev_ret_some {α : Type} {x : α} : ret (some x) s = .ok x s := rfl
def fillR {α : Type} (bad : α) (o : Option D) (k : D → α) : α := match o with
  | some d => k d
  | none => bad
@[simp] theorem ev_fillR {α : Type} {bad : α} {k : D → α} : fillR bad (some d) k = k d := rfl
@[simp] theorem ev_fill_d : fill s (.d d) = some d := rfl
@[simp] theorem ev_mOp2 {oa ob : MO} : mOp2 f oa ob s = (oa s).bind fun a s1 => (ob s1).bind fun b s2 => fillR .bad (fill s2 a) fun x => fillR .bad (fill s2 b) fun y => ret (f x y) s2 := by
  unfold mOp2
  congr 1
  funext a s1
  congr 1
  funext b s2
  cases fill s2 a <;> cases fill s2 b <;> rfl
@[simp] theorem ev_fills_nil : fills s [] = some [] := rfl
@[simp] theorem ev_fills_d {x : D} {as : List AV} : fills s (.d x :: as) = (fills s as).map (x :: ·) := by
  show (match fill s (.d x), fills s as with | some d, some ds => some (d :: ds) | _, _ => none) = _
  cases fills s as <;> rfl
def fillsR {α : Type} (bad : α) (o : Option (List D)) (k : List D → α) : α := match o with
  | some d => k d
  | none => bad
@[simp] theorem ev_fillsR {α : Type} {bad : α} {k : List D → α} {ds : List D} : fillsR bad (some ds) k = k ds := rfl
@[simp] theorem ev_mFn {g : List D → Option D} {oa : MA} : mFn g oa s = (oa s).bind fun as s1 => fillsR .bad (fills s1 as) fun ds => ret (g ds) s1 := by
  unfold mFn
  congr 1
  funext as s1
  cases fills s1 as <;> rfl
@[simp] theorem ev_frzs_nil : frzs [] = some [] := rfl
@[simp] theorem ev_frzs_d {x : D} {as : List AV} : frzs (.d x :: as) = (frzs as).map (x :: ·) := by
  show (match frzs as with | some ds => some (x :: ds) | none => none) = _
  cases frzs as <;> rfl
def szR (k : List D → D) (o : Option (List D)) (s : En) : Res D := match o with
  | some ds => if ds.length ≤ sizeLine then .ok (k ds) s else .bad
  | none => .bad
theorem szR_ok {k : List D → D} {ds : List D} (h : ds.length ≤ 1000) : szR k (some ds) s = .ok (k ds) s := if_pos (Nat.le_trans h (by rw [sizeLine_eq]; decide))
@[simp] theorem ev_mLst {m : MA} : mLst m s = (m s).bind fun as s1 => szR .lst (frzs as) s1 := rfl
@[simp] theorem ev_mTup {m : MA} : mTup m s = (m s).bind fun as s1 => szR .tup (frzs as) s1 := rfl
@[simp] theorem ev_mFrz {m : ME} : mFrz m s = (m s).bind fun d s1 => .ok (frzB d) s1 := rfl
/-! ### loops -/
@[simp] theorem ev_for {it : En → Res (List D)} {g : D → En → Option En} {b : MS} : mFor it g b s = (it s).out fun ds s1 => forL g b ds s1 := rfl
@[simp] theorem ev_gSet {i : Nat} : gSet i d s = some (s.set i (.d d)) := rfl
@[simp] theorem ev_gNone : gNone [] s = some s := rfl
def Option.then {α β : Type} (o : Option α) (k : α → Option β) : Option β := match o with
  | some a => k a
  | none => none
@[simp] theorem ev_then {α β : Type} {x : α} {k : α → Option β} : Option.then (some x) k = k x := rfl
@[simp] theorem ev_gOne {g : D → En → Option En} {r : List D → En → Option En} {ds : List D} : gOne g r (d :: ds) s = Option.then (g d s) fun s1 => r ds s1 := by
  show (match g d s with | some s1 => r ds s1 | none => none) = _
  cases g d s <;> rfl
@[simp] theorem ev_gUn {g : List D → En → Option En} {ds : List D} : gUn g (.tup ds) s = g ds s := rfl
def asgR (o : Option En) : Out := match o with
  | some s => .nx s
  | none => .bad
@[simp] theorem ev_asgR : asgR (some s) = .nx s := rfl
@[simp] theorem ev_asgG {g : D → En → Option En} {m : ME} : mAsgG g m s = (m s).out fun d s1 => asgR (g d s1) := by
  unfold mAsgG
  cases m s with
  | ok d s1 =>
    show (match g d s1 with | some s2 => Out.nx s2 | none => .bad) = asgR (g d s1)
    cases g d s1 <;> rfl
  | ex c fs s => rfl
  | bad => rfl
def seqR (d : D) (s : En) : Res (List D) := match d with
  | .tup ds => .ok ds s
  | .lst ds => .ok ds s
  | _ => .bad
@[simp] theorem ev_seqT {ds : List D} : seqR (.tup ds) s = .ok ds s := rfl
@[simp] theorem ev_seqL {ds : List D} : seqR (.lst ds) s = .ok ds s := rfl
@[simp] theorem ev_iSeq {m : ME} : iSeq m s = (m s).bind seqR := rfl
def rgR1 (o : Option (List D)) (s : En) : Res (List D) := match o with
  | some [.int j] => if small62 j then .ok (rangeD 0 j) s else .bad
  | _ => .bad
def rgR2 (o : Option (List D)) (s : En) : Res (List D) := match o with
  | some [.int i, .int j] => if small62 i ∧ small62 j then .ok (rangeD i j) s else .bad
  | _ => .bad
@[simp] theorem ev_range1 {o : MA} : iRange1 o s = (o s).bind fun as s1 => rgR1 (fills s1 as) s1 := id rfl
@[simp] theorem ev_range2 {o : MA} : iRange2 o s = (o s).bind fun as s1 => rgR2 (fills s1 as) s1 := id rfl
theorem rgR1_ok {j : Int} (h0 : 0 ≤ j) (h : j < 2 ^ 62) : rgR1 (some [.int j]) s = .ok (rangeD 0 j) s := if_pos (show small62 j from ⟨by omega, h⟩)
theorem rgR2_ok {i j : Int} (h0 : 0 ≤ i) (h : i < 2 ^ 62) (h1 : 0 ≤ j) (h2 : j < 2 ^ 62) : rgR2 (some [.int i, .int j]) s = .ok (rangeD i j) s := if_pos (show small62 i ∧ small62 j from ⟨⟨by omega, h⟩, ⟨by omega, h2⟩⟩)
theorem mem_rangeD {lo hi : Int} (h : d ∈ rangeD lo hi) : ∃ k : Int, d = .int k ∧ lo ≤ k ∧ k < hi := by
  obtain ⟨i, hi, rfl⟩ := List.mem_map.mp h
  have := List.mem_range.mp hi
  exact ⟨lo + i, rfl, by omega, by omega⟩
/-- a loop that goes through -/
theorem forL_inv {g : D → En → Option En} {b : MS} (I : En → Prop) : ∀ (ds : List D) (s : En), (∀ d ∈ ds, ∀ s, I s → ∃ s1, g d s = some s1 ∧ ∃ s2, b s1 = .nx s2 ∧ I s2) → I s → ∃ s', forL g b ds s = .nx s' ∧ I s'
  | [], s, _, h => ⟨s, rfl, h⟩
  | d :: ds, s, st, h => by
    obtain ⟨s1, e1, s2, e2, h2⟩ := st d (List.mem_cons_self ..) s h
    obtain ⟨s', e3, h3⟩ := forL_inv I ds s2 (fun d hd => st d (List.mem_cons_of_mem _ hd)) h2
    refine ⟨s', ?_, h3⟩
    unfold forL
    rw [e1]
    dsimp only
    rw [e2]
    exact e3
/-! ### x.append of an own list -/
def appR (o : Option Sl) (i : Nat) (s : En) (d : D) : Res D := match o with
  | some (.b (.lst cs)) => if cs.length < sizeLine then .ok .non (s.set i (.b (.lst (cs ++ [d])))) else .bad
  | _ => .bad
theorem appR_ok {i : Nat} {cs : List D} (h : cs.length < 1000) : appR (some (.b (.lst cs))) i s d = .ok .non (s.set i (.b (.lst (cs ++ [d])))) := if_pos (Nat.lt_of_lt_of_le h (by rw [sizeLine_eq]; decide))
theorem ev_app {tab : Str → Str → Bool} {i : Nat} {cs : List D} (h : s[i]? = some (.b (.lst cs))) (hl : cs.length < 1000) (ha : a s = .ok d) : mMt fApp tab i [] (psCons a psNil) s = .ok .non (s.set i (.b (.lst (cs ++ [d])))) := by
  unfold mMt
  have : atP tab i [] s = some (.lst cs, .lst cs) := by unfold atP; rw [h]; rfl
  rw [this]
  dsimp only
  rw [show psCons a psNil s = .ok [d] from by rw [ev_psCons, ha]; rfl]
  dsimp only
  have h2 : cs.length < sizeLine := Nat.lt_of_lt_of_le hl (by rw [sizeLine_eq]; decide)
  have : fApp cs [d] = some (.non, cs ++ [d]) := if_pos h2
  rw [this]
  rfl
def appP (r : Pr) (o : Option Sl) (i : Nat) (s : En) : Res D := match o with
  | some (.b (.lst cs)) => (match r with
    | .ok d => if cs.length < sizeLine then .ok .non (s.set i (.b (.lst (cs ++ [d])))) else .bad
    | .ex c fs => .ex c fs s
    | .bad => .bad)
  | _ => .bad
theorem appP_ok {i : Nat} {cs : List D} (h : cs.length < 1000) : appP (.ok d) (some (.b (.lst cs))) i s = .ok .non (s.set i (.b (.lst (cs ++ [d])))) := if_pos (Nat.lt_of_lt_of_le h (by rw [sizeLine_eq]; decide))
@[simp] theorem ev_appP {tab : Str → Str → Bool} {i : Nat} : mMt fApp tab i [] (psCons a psNil) s = appP (a s) s[i]? i s := by
  unfold mMt appP
  cases e : s[i]? with
  | none => simp [atP, e]
  | some y =>
    cases y with
    | b c =>
      have : atP tab i [] s = some (c, c) := by unfold atP; rw [e]; rfl
      rw [this]
      cases c with
      | lst cs =>
        dsimp only
        rw [ev_psCons]
        cases a s with
        | ok d =>
          show (match fApp cs [d] with | some (d, cs') => _ | none => _) = _
          unfold fApp
          dsimp only
          by_cases h : cs.length < sizeLine
          · rw [if_pos h, if_pos h]; rfl
          · rw [if_neg h, if_neg h]
        | ex c fs => rfl
        | bad => rfl
      | _ => rfl
    | _ => simp [atP, e]
def lstR (o : Option Sl) (r : Res D) : Res D := match o with
  | some (.b (.lst _)) => r
  | _ => .bad
@[simp] theorem ev_lstR {cs : List D} {r : Res D} : lstR (some (.b (.lst cs))) r = r := rfl
def appA (o : Option (List D)) (q : Option Sl) (i : Nat) (s : En) : Res D := match o with
  | some [d] => appP (.ok d) q i s
  | _ => .bad
@[simp] theorem ev_appA {q : Option Sl} {i : Nat} : appA (some [d]) q i s = appP (.ok d) q i s := rfl
@[simp] theorem ev_appX {i : Nat} {m : MA} : mMtX fApp i m s = lstR s[i]? ((m s).bind fun as s1 => appA (frzs as) s1[i]? i s1) := by
  have key : ∀ (as : List AV) (s1 : En), (match frzs as with
    | some ds => match s1[i]? with
      | some (.b (.lst cs)) => match fApp cs ds with
        | some (d, cs') => Res.ok d (s1.set i (.b (.lst cs')))
        | none => .bad
      | _ => .bad
    | none => .bad) = appA (frzs as) s1[i]? i s1 := fun as s1 => by
    cases frzs as with
    | none => rfl
    | some ds =>
      dsimp only
      have nb : ∀ ds : List D, (∀ d, ds ≠ [d]) → (match s1[i]? with
        | some (.b (.lst cs)) => match fApp cs ds with
          | some (d, cs') => Res.ok d (s1.set i (.b (.lst cs')))
          | none => .bad
        | _ => .bad) = .bad := fun ds h => by
        have hf : ∀ cs, fApp cs ds = none := fun cs => by
          unfold fApp
          split
          · exact absurd rfl (h _)
          · rfl
        split
        · rw [hf]
        · rfl
      match ds with
      | [] => exact nb [] (fun z h => by cases h)
      | [d] =>
        unfold appA appP
        dsimp only
        cases s1[i]? with
        | none => rfl
        | some y =>
          cases y with
          | b c =>
            cases c with
            | lst cs =>
              dsimp only
              unfold fApp
              dsimp only
              by_cases h : cs.length < sizeLine
              · rw [if_pos h, if_pos h]
              · rw [if_neg h, if_neg h]
            | _ => rfl
          | _ => rfl
      | d :: e :: r => exact nb (d :: e :: r) (fun z h => by cases h)
  unfold mMtX
  cases e : s[i]? with
  | none => rfl
  | some y =>
    cases y with
    | b c =>
      cases c with
      | lst cs =>
        show (m s).bind _ = (m s).bind _
        congr 1
        funext as s1
        exact key as s1
      | _ => rfl
    | _ => rfl
/-- a loop that goes through, its steps counted -/
theorem forL_idx {g : D → En → Option En} {b : MS} : ∀ (ds : List D) (I : Nat → En → Prop) (s : En), (∀ (i : Nat) d s, ds[i]? = some d → I i s → ∃ s1, g d s = some s1 ∧ ∃ s2, b s1 = .nx s2 ∧ I (i + 1) s2) → I 0 s → ∃ s', forL g b ds s = .nx s' ∧ I ds.length s'
  | [], I, s, _, h => ⟨s, rfl, h⟩
  | d :: ds, I, s, st, h => by
    obtain ⟨s1, e1, s2, e2, h2⟩ := st 0 d s rfl h
    obtain ⟨s', e3, h3⟩ := forL_idx ds (fun i => I (i + 1)) s2 (fun i d s hd => st (i + 1) d s (by simpa using hd)) h2
    refine ⟨s', ?_, h3⟩
    unfold forL
    rw [e1]
    dsimp only
    rw [e2]
    exact e3
theorem rangeD_get {lo hi : Int} {i : Nat} (h : (rangeD lo hi)[i]? = some d) : d = .int (lo + i) ∧ lo + i < hi := by
  unfold rangeD at h
  rw [List.getElem?_map] at h
  cases e : (List.range (hi - lo).toNat)[i]? with
  | none => rw [e] at h; cases h
  | some k =>
    rw [e] at h
    cases h
    have := List.getElem?_eq_some_iff.mp e
    obtain ⟨hl, hk⟩ := this
    rw [List.getElem_range] at hk
    rw [List.length_range] at hl
    subst hk
    exact ⟨rfl, by omega⟩
theorem rangeD_length {lo hi : Int} : (rangeD lo hi).length = (hi - lo).toNat := by unfold rangeD; simp
def isiP (o : Option Bool) : Pr := match o with
  | some b => .ok (.bl b)
  | none => .bad
@[simp] theorem ev_isiP {b : Bool} : isiP (some b) = .ok (.bl b) := rfl
@[simp] theorem ev_pIsi {f : D → Option Bool} : pIsi f a s = (a s).bind fun d => isiP (f d) := by
  unfold pIsi
  congr 1
@[simp] theorem ev_pCall {n : Nat} {g : List D → Out} {m : MPs} : pCall n g m s = (m s).bind fun ds => if ds.length = n then outV (g ds) else .bad := by
  unfold pCall
  cases m s with
  | ok ds =>
    show (if ds.length = n then _ else _) = (if ds.length = n then _ else _)
    split
    · cases g ds <;> rfl
    · rfl
  | ex c fs => rfl
  | bad => rfl
def Pr.flag3 (r : Option D) (t : Pr) : Pr := match r with
  | some (.bl true) => t
  | some (.bl false) => .ok (.bl false)
  | _ => .bad
@[simp] theorem ev_flag3t {t : Pr} : Pr.flag3 (some (.bl true)) t = t := rfl
@[simp] theorem ev_flag3f {t : Pr} : Pr.flag3 (some (.bl false)) t = .ok (.bl false) := rfl
@[simp] theorem ev_chain {g : D → D → Option D} : pChain f g a b c s = (a s).bind fun x => (b s).bind fun y => Pr.flag3 (f x y) ((c s).bind fun z => .of (g y z)) := rfl
end
end Mir
/-! Pl: plain data (no dicts, no objects), their ==. -/
namespace Mir
open PySem PySem.Spec PyProof.Rows L2
def plF : D → Bool
  | .non => true
  | .bl _ => true
  | .int _ => true
  | .str x => PyData.strOk x
  | _ => false
def pl : Nat → D → Bool
  | 0, d => plF d
  | n + 1, d => match d with
    | .tup ds => ds.all (pl n)
    | .lst ds => ds.all (pl n)
    | d => plF d
theorem toPy_plF {d : D} (h : plF d = true) : ∃ p, toPy d = some p ∧ p.canLay0 = true ∧ p.depth = 0 := by
  cases d with
  | non => exact ⟨_, by simp [toPy]; rfl, by simp [PyData.canLay0], by simp [PyData.depth]⟩
  | bl b => exact ⟨_, by simp [toPy]; rfl, by simp [PyData.canLay0], by simp [PyData.depth]⟩
  | int b => exact ⟨_, by simp [toPy]; rfl, by simp [PyData.canLay0], by simp [PyData.depth]⟩
  | str b => exact ⟨_, by simp [toPy]; rfl, by simpa [PyData.canLay0, plF] using h, by simp [PyData.depth]⟩
  | _ => cases h
theorem toPys_pl {n : Nat} (ih : ∀ d : D, pl n d = true → ∃ p, toPy d = some p ∧ p.canLay0 = true ∧ p.depth ≤ n) : ∀ ds : List D, ds.all (pl n) = true → ∃ ps, toPys ds = some ps ∧ PyData.canLayAll0 ps = true ∧ PyData.depthAll ps ≤ n
  | [], _ => ⟨[], by simp [toPys], by simp [PyData.canLayAll0], by simp [PyData.depthAll]⟩
  | d :: ds, h => by
    rw [List.all_cons, Bool.and_eq_true] at h
    obtain ⟨p, e1, c1, d1⟩ := ih d h.1
    obtain ⟨ps, e2, c2, d2⟩ := toPys_pl ih ds h.2
    exact ⟨p :: ps, by simp [toPys, e1, e2], by simp [PyData.canLayAll0, c1, c2], by simp [PyData.depthAll]; omega⟩
theorem toPy_pl : ∀ {n : Nat} (d : D), pl n d = true → ∃ p, toPy d = some p ∧ p.canLay0 = true ∧ p.depth ≤ n
  | 0, d, h => by
    obtain ⟨p, e, c, z⟩ := toPy_plF (d := d) h
    exact ⟨p, e, c, by omega⟩
  | n + 1, d, h => by
    have flat : plF d = true → ∃ p, toPy d = some p ∧ p.canLay0 = true ∧ p.depth ≤ n + 1 := fun h => by
      obtain ⟨p, e, c, z⟩ := toPy_plF h
      exact ⟨p, e, c, by omega⟩
    cases d with
    | tup ds =>
      obtain ⟨ps, e, c, z⟩ := toPys_pl (n := n) (fun d h => toPy_pl d h) ds h
      exact ⟨.tuple ps, by simp [toPy, e], by simpa [PyData.canLay0] using c, by simp [PyData.depth]; omega⟩
    | lst ds =>
      obtain ⟨ps, e, c, z⟩ := toPys_pl (n := n) (fun d h => toPy_pl d h) ds h
      exact ⟨.list ps, by simp [toPy, e], by simpa [PyData.canLay0] using c, by simp [PyData.depth]; omega⟩
    | _ => exact flat h
/-- == of plain data -/
def deq (x y : D) : Bool := match toPy x, toPy y with
  | some p, some q => PyData.eqv p q
  | _, _ => false
def deqs : List D → List D → Bool
  | [], [] => true
  | x :: xs, y :: ys => deq x y && deqs xs ys
  | _, _ => false
theorem eqD_pl {neg : Bool} {x y : D} {n m : Nat} (hx : pl n x = true) (hy : pl m y = true) (hn : n ≤ 64) (hm : m ≤ 64) : eqD neg x y = some (.bl (xor neg (deq x y))) := by
  obtain ⟨p, e1, c1, d1⟩ := toPy_pl x hx
  obtain ⟨q, e2, c2, d2⟩ := toPy_pl y hy
  unfold eqD deq
  rw [e1, e2]
  have s1 : SeqAt.shaped p = true := by unfold SeqAt.shaped; rw [c1]; simp; omega
  have s2 : SeqAt.shaped q = true := by unfold SeqAt.shaped; rw [c2]; simp; omega
  simp [s1, s2]
theorem deqs_py {n m : Nat} : ∀ (xs ys : List D) (ps qs : List PyData), toPys xs = some ps → toPys ys = some qs → PyData.eqvAll ps qs = deqs xs ys
  | [], [], ps, qs, h1, h2 => by
    simp [toPys] at h1 h2; subst h1; subst h2; simp [PyData.eqvAll, deqs]
  | [], y :: ys, ps, qs, h1, h2 => by
    simp [toPys] at h1 h2
    subst h1
    split at h2
    · cases h2; simp [PyData.eqvAll, deqs]
    · cases h2
  | x :: xs, [], ps, qs, h1, h2 => by
    simp [toPys] at h1 h2
    subst h2
    split at h1
    · cases h1; simp [PyData.eqvAll, deqs]
    · cases h1
  | x :: xs, y :: ys, ps, qs, h1, h2 => by
    simp [toPys] at h1 h2
    split at h1
    · rename_i p ps' e1 e2
      cases h1
      split at h2
      · rename_i q qs' e3 e4
        cases h2
        simp only [PyData.eqvAll, deqs, deq, e1, e3]
        rw [deqs_py (n := n) (m := m) xs ys ps' qs' e2 e4]
      · cases h2
    · cases h1
theorem pl_all {n : Nat} {ds : List D} (h : pl (n + 1) (.tup ds) = true) : ds.all (pl n) = true := h
theorem deq_tup {xs ys : List D} {n m : Nat} (hx : xs.all (pl n) = true) (hy : ys.all (pl m) = true) : deq (.tup xs) (.tup ys) = deqs xs ys := by
  obtain ⟨ps, e1, _⟩ := toPys_pl (n := n) (fun d h => toPy_pl d h) xs hx
  obtain ⟨qs, e2, _⟩ := toPys_pl (n := m) (fun d h => toPy_pl d h) ys hy
  unfold deq
  simp only [toPy, e1, e2, Option.map_some, PyData.eqv]
  exact deqs_py (n := n) (m := m) xs ys ps qs e1 e2
theorem deq_lst {xs ys : List D} {n m : Nat} (hx : xs.all (pl n) = true) (hy : ys.all (pl m) = true) : deq (.lst xs) (.lst ys) = deqs xs ys := by
  obtain ⟨ps, e1, _⟩ := toPys_pl (n := n) (fun d h => toPy_pl d h) xs hx
  obtain ⟨qs, e2, _⟩ := toPys_pl (n := m) (fun d h => toPy_pl d h) ys hy
  unfold deq
  simp only [toPy, e1, e2, Option.map_some, PyData.eqv]
  exact deqs_py (n := n) (m := m) xs ys ps qs e1 e2
theorem deq_refl : ∀ {n : Nat} (d : D), pl n d = true → deq d d = true
  | n, d, h => by
    have flat : plF d = true → deq d d = true := fun h => by
      cases d with
      | non => simp [deq, toPy, PyData.eqv]
      | bl b => simp [deq, toPy, PyData.eqv]
      | int b => simp [deq, toPy, PyData.eqv]
      | str b => simp [deq, toPy, PyData.eqv]
      | _ => cases h
    match n, h with
    | 0, h => exact flat h
    | n + 1, h =>
      have key : ∀ ds : List D, ds.all (pl n) = true → deqs ds ds = true := fun ds => by
        induction ds with
        | nil => intro _; rfl
        | cons x xs ih =>
          intro h
          rw [List.all_cons, Bool.and_eq_true] at h
          simp only [deqs, deq_refl x h.1, ih h.2, Bool.and_self]
      cases d with
      | tup ds => rw [deq_tup h h]; exact key ds h
      | lst ds =>
        rw [deq_lst (n := n) (m := n) h h]; exact key ds h
      | _ => exact flat h
@[simp] theorem deq_int {i j : Int} : deq (.int i) (.int j) = decide (i = j) := by
  simp [deq, toPy, PyData.eqv]
  rw [Bool.eq_iff_iff]; simp
/-! walking mirrors by hand -/
theorem sq {p q : MS} {s s1 : En} {o : Out} (h : p s = .nx s1) (h2 : q s1 = o) : mSeq p q s = o := by rw [ev_seq, h]; exact h2
theorem sq_rt {p q : MS} {s s1 : En} {d : D} (h : p s = .rt d s1) : mSeq p q s = .rt d s1 := by rw [ev_seq, h]; rfl
theorem sq_ex {p q : MS} {s s1 : En} {c : Str} {fs : List (Str × D)} (h : p s = .ex c fs s1) : mSeq p q s = .ex c fs s1 := by rw [ev_seq, h]; rfl
theorem for_eq {it : En → Res (List D)} {g : D → En → Option En} {b : MS} {s s1 : En} {ds : List D} {o : Out} (h : it s = .ok ds s1) (h2 : forL g b ds s1 = o) : mFor it g b s = o := by rw [ev_for, h]; exact h2
theorem forL_cons {g : D → En → Option En} {b : MS} {s s1 s2 : En} {d : D} {ds : List D} {o : Out} (h : g d s = some s1) (h1 : b s1 = .nx s2) (h2 : forL g b ds s2 = o) : forL g b (d :: ds) s = o := by
  unfold forL; rw [h]; dsimp only; rw [h1]; exact h2
theorem forL_rt {g : D → En → Option En} {b : MS} {s s1 s2 : En} {d r : D} {ds : List D} (h : g d s = some s1) (h1 : b s1 = .rt r s2) : forL g b (d :: ds) s = .rt r s2 := by
  unfold forL; rw [h]; dsimp only; rw [h1]
theorem fnB_ex {n : Nat} {m : List Bool} {b : MS} {ds : List D} {c : Str} {fs : List (Str × D)} {s : En} (h : b (args m ds ++ List.replicate (n - ds.length) .no) = .ex c fs s) : fnB n m b ds = .ex c fs (keep m s) := by unfold fnB; rw [h]
theorem fnB_rtE {n : Nat} {m : List Bool} {b : MS} {ds : List D} {d : D} {s : En} (h : b (args m ds ++ List.replicate (n - ds.length) .no) = .rt d s) : fnB n m b ds = .rt d (keep m s) := by unfold fnB; rw [h]
theorem fnB_nx {n : Nat} {m : List Bool} {b : MS} {ds : List D} {s : En} (h : b (args m ds ++ List.replicate (n - ds.length) .no) = .nx s) : fnB n m b ds = .rt .non (keep m s) := by unfold fnB; rw [h]
/-! list comprehensions with one name -/
theorem lcL_one {v : Nat} {t : MT} {e : ME} (f : D → Option D) (s : En) : ∀ (ds acc : List D) (x : Sl), (∀ d ∈ ds, ∃ b, t (s.set v (.d d)) = .ok b (s.set v (.d d)) ∧ match b with
    | true => ∃ y, e (s.set v (.d d)) = .ok y (s.set v (.d d)) ∧ f d = some y
    | false => f d = none) → acc.length + ds.length ≤ 1000 → ∃ x', lcL [v] (gSet v) t e ds acc (s.set v x) = .ok (acc ++ ds.filterMap f) (s.set v x')
  | [], acc, x, _, _ => ⟨x, by simp [lcL]⟩
  | d :: ds, acc, x, H, hl => by
    obtain ⟨b, e1, hb⟩ := H d (List.mem_cons_self ..)
    have hH := fun d' hd' => H d' (List.mem_cons_of_mem d hd')
    rw [List.length_cons] at hl
    have hw : gSet v d (wipeD (s.set v x) [v]) = some (s.set v (.d d)) := by
      simp [gSet, wipeD]
    have hsz : acc.length < sizeLine := Nat.lt_of_lt_of_le (show acc.length < 1000 by omega) (by rw [sizeLine_eq]; decide)
    unfold lcL
    rw [hw]
    dsimp only
    rw [e1]
    cases b with
    | true =>
      obtain ⟨y, e2, ef⟩ := hb
      obtain ⟨x', e3⟩ := lcL_one f s ds (acc ++ [y]) (.d d) hH (by simp; omega)
      refine ⟨x', ?_⟩
      show (noEx (e _)).bind _ = _
      rw [e2]
      show (if acc.length < sizeLine then _ else _) = _
      rw [if_pos hsz, e3, List.filterMap_cons, ef]
      simp
    | false =>
      obtain ⟨x', e3⟩ := lcL_one f s ds acc (.d d) hH (by omega)
      refine ⟨x', ?_⟩
      show lcL [v] (gSet v) t e ds acc (s.set v (.d d)) = _
      rw [e3, List.filterMap_cons, show f d = none from hb]
theorem set_no {s : En} {v : Nat} (h : s[v]? = some .no) : s.set v .no = s := by
  apply List.ext_getElem?
  intro i
  rw [List.getElem?_set]
  by_cases hi : v = i
  · subst hi
    obtain ⟨h1, h2⟩ := List.getElem?_eq_some_iff.mp h
    simp [h1, h2]
  · simp [hi]
theorem mLc_one {v : Nat} {it : En → Res (List D)} {t : MT} {e : ME} {s : En} {ds : List D} (f : D → Option D) (hi : it s = .ok ds s) (hv : s[v]? = some .no) (hl : ds.length ≤ 1000) (H : ∀ d ∈ ds, ∃ b, t (s.set v (.d d)) = .ok b (s.set v (.d d)) ∧ match b with
    | true => ∃ y, e (s.set v (.d d)) = .ok y (s.set v (.d d)) ∧ f d = some y
    | false => f d = none) : mLc [v] it (gSet v) t e s = .ok (.lst (ds.filterMap f)) s := by
  obtain ⟨x', e1⟩ := lcL_one f s ds [] .no H (by simpa using hl)
  rw [set_no hv] at e1
  unfold mLc
  rw [hi]
  show (lcL [v] (gSet v) t e ds [] s).bind _ = _
  rw [e1]
  show (Res.ok (D.lst ([] ++ ds.filterMap f)) (restD s (s.set v x') [v]) : Res D) = _
  have : restD s (s.set v x') [v] = s := by
    simp only [restD, hv, List.set_set]
    exact set_no hv
  rw [this, List.nil_append]
@[simp] theorem ev_yes {s : En} : mYes s = .ok true s := rfl
@[simp] theorem frzB_lst {ds : List D} : frzB (.lst ds) = .lst ds := rfl
@[simp] theorem frzB_dct {ds : List (D × D)} : frzB (.dct ds) = .dct ds := rfl
@[simp] theorem frzB_dtt {ds : List (D × D)} : frzB (.dtt ds) = .dtt ds := rfl
theorem intsD_map : ∀ l : List Int, intsD (l.map D.int) = some l
  | [] => rfl
  | i :: l => by
    show (intsD (l.map D.int)).map (i :: ·) = _
    rw [intsD_map l]; rfl
def srt (l : List Int) : List Int := l.mergeSort fun x y => decide (x ≤ y)
theorem sortI_map {l : List Int} : fSortI [.lst (l.map D.int)] = some (.lst ((srt l).map D.int)) := by
  show (intsD (l.map D.int)).map _ = _
  rw [intsD_map]; rfl
theorem v_addL {xs ys : List D} (h : xs.length + ys.length ≤ 1000) : fAdd (.lst xs) (.lst ys) = some (.lst (xs ++ ys)) := if_pos (Nat.le_trans h (by rw [sizeLine_eq]; decide))
/-! fields -/
def fldR (tab : Str → Str → Bool) (f : Str) (d : D) : Pr := match d with
  | .ins c fs => if tab c f = true then match fs.lookup f with
    | some (.box _) => .bad
    | some d => .ok d
    | none => .bad
    else .bad
  | _ => .bad
@[simp] theorem ev_pFld {tab : Str → Str → Bool} {f : Str} {m : MP} {s : En} : pFld tab f m s = (m s).bind (fldR tab f) := by
  unfold pFld fldR
  congr 1
theorem setF_ok {tab : Str → Str → Bool} {i : Nat} {f : Str} {m : ME} {s s1 : En} {d : D} {c : Str} {fs fs' : List (Str × D)} (h : m s = .ok d s1) (h1 : s1[i]? = some (.b (.ins c fs))) (h2 : tab c f = true) (h3 : fs.length < 1000) (h4 : putFD f d fs = fs') : mSetF tab i f m s = .nx (s1.set i (.b (.ins c fs'))) := by
  unfold mSetF
  rw [h]
  show (match s1[i]? with | some (.b (.ins c fs)) => _ | _ => _) = _
  rw [h1]
  dsimp only
  rw [if_pos ⟨h2, h3⟩, h4]
theorem setFB_ok {tab : Str → Str → Bool} {i : Nat} {f : Str} {m : ME} {s s1 : En} {d : D} {c : Str} {fs fs' : List (Str × D)} (h : m s = .ok d s1) (h1 : s1[i]? = some (.b (.ins c fs))) (h2 : tab c f = true) (h3 : fs.length < 1000) (h4 : putFD f (.box d) fs = fs') : mSetFB tab i f m s = .nx (s1.set i (.b (.ins c fs'))) := by
  unfold mSetFB
  rw [h]
  show (match s1[i]? with | some (.b (.ins c fs)) => _ | _ => _) = _
  rw [h1]
  dsimp only
  rw [if_pos ⟨h2, h3⟩, h4]
theorem setIp_ok {tab : Str → Str → Bool} {i : Nat} {p : List Str} {mk : MP} {me : ME} {s s1 : En} {d0 d c k c' d1 : D} (h : me s = .ok d s1) (h1 : s1[i]? = some (.b d0)) (h2 : subD tab d0 p = some c) (h3 : mk s1 = .ok k) (h4 : stI c k d = some c') (h5 : putD d0 p c' = d1) : mSetI tab i p mk me s = .nx (s1.set i (.b d1)) := by
  unfold mSetI
  rw [h]
  have : atP tab i p s1 = some (d0, c) := by unfold atP; rw [h1]; dsimp only; rw [h2]
  show (match atP tab i p s1 with | some (d0, c) => _ | none => _) = _
  rw [this]
  dsimp only
  rw [h3]
  show (match stI c k d with | some c' => _ | none => _) = _
  rw [h4]
  dsimp only
  rw [h5]
/-! dicts with tuple keys -/
theorem lookT_put {kvs : List (D × D)} {q q' : List Key} {k d : D} (hk : keyT k = some q) : lookT (putTD kvs q k d) q' = if q = q' then some d else lookT kvs q' := by
  unfold putTD
  split
  · rename_i h
    unfold lookT
    induction kvs with
    | nil => simp at h
    | cons x xs ih =>
      simp only [List.map_cons, List.find?_cons]
      by_cases h1 : keyT x.1 = some q
      · simp only [h1, if_true]
        by_cases h2 : q = q'
        · subst h2; simp
        · have : ¬ (some q = some q') := fun e => h2 (Option.some.inj e)
          simp only [this, decide_false, if_neg h2]
          by_cases h3 : (xs.any fun p => decide (keyT p.1 = some q)) = true
          · rw [ih h3, if_neg h2]
          · have : xs.map (fun p => if keyT p.1 = some q then (p.1, d) else p) = xs := by
              conv => rhs; rw [← List.map_id xs]
              apply List.map_congr_left
              intro p hp
              have : ¬ keyT p.1 = some q := fun e => h3 (List.any_eq_true.mpr ⟨p, hp, by simp [e]⟩)
              rw [if_neg this]; rfl
            rw [this]
      · have hx : (xs.any fun p => decide (keyT p.1 = some q)) = true := by simpa [h1] using h
        simp only [h1, if_false]
        by_cases h2 : keyT x.1 = some q'
        · have : ¬ q = q' := fun e => h1 (e ▸ h2)
          simp [h2, this]
        · simp only [h2, decide_false]
          exact ih hx
  · rename_i h
    unfold lookT
    rw [List.find?_append]
    by_cases h2 : q = q'
    · subst h2
      have : kvs.find? (fun p => decide (keyT p.1 = some q)) = none := by
        rw [List.find?_eq_none]
        intro p hp e
        exact h (List.any_eq_true.mpr ⟨p, hp, e⟩)
      simp [this, hk]
    · have : ¬ (some q = some q') := fun e => h2 (Option.some.inj e)
      simp [hk, this, h2]
theorem putTD_length {kvs : List (D × D)} {q : List Key} {k d : D} : (putTD kvs q k d).length ≤ kvs.length + 1 := by
  unfold putTD
  split <;> simp
@[simp] theorem ev_consX {c : Str} {fs : List (Str × D)} {k : Prs} : (Pr.ex c fs).cons k = .ex c fs := rfl
@[simp] theorem ev_consX2 {d : D} {c : Str} {fs : List (Str × D)} : (Pr.ok d).cons (.ex c fs) = .ex c fs := rfl
@[simp] theorem ev_bindsX {c : Str} {fs : List (Str × D)} {g : List D → Pr} : (Prs.ex c fs).bind g = .ex c fs := rfl
end Mir
namespace Law
open PySem PySem.Spec PyProof.Rows L2 Mir
theorem v_mulA {i j : Int} (h : (-(2 ^ 64) < i ∧ i < 2 ^ 64) ∨ (-(2 ^ 64) < j ∧ j < 2 ^ 64)) : fMulA (.int i) (.int j) = some (.int (i * j)) := if_pos h
/-- the hand: cells, place, what is left of a big cell, the state, the count -/
def hnd (cells : List Int) (i : Nat) (b s c : Int) : D := .lst [.lst (cells.map .int), .int i, .int b, .int s, .int c]
structure HOk (cells : List Int) (i : Nat) (b s c : Int) : Prop where
  b0 : 0 ≤ b
  s0 : 0 ≤ s
  s1 : s < 2147483647
  i1 : i ≤ cells.length
def Hand (d : D) : Prop := ∃ cells i b s c, d = hnd cells i b s c ∧ HOk cells i b s c
theorem a0 {a b c d e : D} : fAt (.lst [a, b, c, d, e]) (.int 0) = some a := rfl
theorem a1 {a b c d e : D} : fAt (.lst [a, b, c, d, e]) (.int 1) = some b := rfl
theorem a2 {a b c d e : D} : fAt (.lst [a, b, c, d, e]) (.int 2) = some c := rfl
theorem a3 {a b c d e : D} : fAt (.lst [a, b, c, d, e]) (.int 3) = some d := rfl
theorem a4 {a b c d e : D} : fAt (.lst [a, b, c, d, e]) (.int 4) = some e := rfl
theorem s1_ {a b c d e x : D} : stI (.lst [a, b, c, d, e]) (.int 1) x = some (.lst [a, x, c, d, e]) := rfl
theorem s2_ {a b c d e x : D} : stI (.lst [a, b, c, d, e]) (.int 2) x = some (.lst [a, b, x, d, e]) := rfl
theorem s3_ {a b c d e x : D} : stI (.lst [a, b, c, d, e]) (.int 3) x = some (.lst [a, b, c, x, e]) := rfl
theorem s4_ {a b c d e x : D} : stI (.lst [a, b, c, d, e]) (.int 4) x = some (.lst [a, b, c, d, x]) := rfl
theorem b1_ {s : En} {a b c d e x : D} : stB s 0 (.lst [a, b, c, d, e]) (.int 1) x = .nx (s.set 0 (.b (.lst [a, x, c, d, e]))) := rfl
theorem b2_ {s : En} {a b c d e x : D} : stB s 0 (.lst [a, b, c, d, e]) (.int 2) x = .nx (s.set 0 (.b (.lst [a, b, x, d, e]))) := rfl
theorem b3_ {s : En} {a b c d e x : D} : stB s 0 (.lst [a, b, c, d, e]) (.int 3) x = .nx (s.set 0 (.b (.lst [a, b, c, x, e]))) := rfl
theorem b4_ {s : En} {a b c d e x : D} : stB s 0 (.lst [a, b, c, d, e]) (.int 4) x = .nx (s.set 0 (.b (.lst [a, b, c, d, x]))) := rfl
theorem fnB_eq {n : Nat} {m : List Bool} {b : MS} {ds : List D} {d : D} {s : En} (h : b (args m ds ++ List.replicate (n - ds.length) .no) = .rt d s) : fnB n m b ds = .rt d (keep m s) := by unfold fnB; rw [h]
theorem at_map {f : Int → D} {cells : List Int} {i : Nat} (h : i < cells.length) (hc : ∀ x, f x = .int x) : fAt (.lst (cells.map f)) (.int i) = some (.int cells[i]) := by
  show atI (cells.map f) (i : Int) = _
  unfold atI
  have : ixN (cells.map f).length (i : Int) = some i := by
    unfold ixN
    rw [List.length_map]
    simp [h]
  rw [this]
  simp [h, hc]
theorem pow18 : fPow (.int 10) (.int 18) = some (.int 1000000000000000000) := by rfl
theorem take_ok {d : D} (h : Hand d) {m : Int} (h1 : 1 ≤ m) (h2 : m < 1073741824) : ∃ r d', M_law_take [d, .int m] = .rt (.int r) [.b d'] ∧ Hand d' ∧ 0 ≤ r ∧ r < m := by
  obtain ⟨cells, i, b, s, c, rfl, hk⟩ := h
  suffices h : ∃ r d' s', B_law_take [.b (hnd cells i b s c), .d (.int m), .no, .no, .no] = .rt (.int r) (.b d' :: s') ∧ Hand d' ∧ 0 ≤ r ∧ r < m by
    obtain ⟨r, d', s', e, h⟩ := h
    exact ⟨r, d', (fnB_eq (n := 5) (m := [true]) (b := B_law_take) (ds := [hnd cells i b s c, .int m]) e), h⟩
  have hm0 : m ≠ 0 := by omega
  have hmd : m ≠ 0 ∧ m.natAbs < 1073741824 := by omega
  have bnd : ∀ k : Int, 0 ≤ k.fmod 2147483647 ∧ k.fmod 2147483647 < 2147483647 := fun k => by rw [fmodE _ (by omega)]; omega
  have mul1 : ∀ (k z : Int), fMulA (.int (k.fmod 2147483647)) (.int z) = some (.int (k.fmod 2147483647 * z)) := fun k z => v_mulA (.inl (by have := bnd k; omega))
  have mulc : ∀ z : Int, fMulA (.int 7919) (.int z) = some (.int (7919 * z)) := fun z => v_mulA (.inl (by decide))
  have mulk : fMulA (.int s) (.int 69621) = some (.int (s * 69621)) := v_mulA (.inr (by decide))
  have e1 : fMulA (.int s) (.int 48271) = some (.int (s * 48271)) := v_mulA (.inr (by decide))
  have d1 : ∀ z : Int, fDiv (.int z) (.int 1009) = some (.int (z.fdiv 1009)) := fun z => v_div (by decide)
  have d2 : ∀ z : Int, fDiv (.int z) (.int 2003) = some (.int (z.fdiv 2003)) := fun z => v_div (by decide)
  have d3 : ∀ z : Int, fDiv (.int z) (.int 16) = some (.int (z.fdiv 16)) := fun z => v_div (by decide)
  have m1 : ∀ z : Int, fMod (.int z) (.int 2147483647) = some (.int (z.fmod 2147483647)) := fun z => v_mod (by decide)
  have m2 : ∀ z : Int, fMod (.int z) (.int 2147483399) = some (.int (z.fmod 2147483399)) := fun z => v_mod (by decide)
  have M : ∀ z : Int, fMod (.int z) (.int m) = some (.int (z.fmod m)) := fun z => v_mod hm0
  have V : ∀ z : Int, fDiv (.int z) (.int m) = some (.int (z.fdiv m)) := fun z => v_div hmd
  have hs := hk.s0
  have hs1 := hk.s1
  have hb0 := hk.b0
  have hi1 := hk.i1
  by_cases hb : b = 0
  · subst hb
    by_cases hi : i < cells.length
    · have hlt : ((i : Int) < (cells.length : Int)) := by omega
      have hat : fAt (.lst (cells.map .int)) (.int i) = some (.int cells[i]) := at_map hi fun _ => rfl
      by_cases hc : 1000000000000000000 ≤ cells[i]
      · have hpos : 0 < cells[i] := by omega
        simp [B_law_take, hnd, a0, a1, a2, a3, a4, b1_, b2_, b3_, b4_, hlt, hat, pow18, hc, hpos, M, V]
        refine ⟨_, _, ⟨rfl, rfl⟩, ⟨cells, i + 1, _, s, c + 1, rfl, ⟨?_, hs, hs1, hi⟩⟩, ?_, ?_⟩
        · rw [fdivE _ (by omega)]; exact Int.ediv_nonneg (by omega) (by omega)
        · rw [fmodE _ (by omega)]; exact Int.emod_nonneg _ hm0
        · rw [fmodE _ (by omega)]; exact Int.emod_lt_of_pos _ (by omega)
      · simp [B_law_take, hnd, a0, a1, a2, a3, a4, b1_, b2_, b3_, b4_, hlt, hat, pow18, hc, e1, mul1, mulc, mulk, d1, d2, d3, m1, m2, M]
        refine ⟨_, _, ⟨rfl, rfl⟩, ⟨cells, i + 1, 0, _, c + 1, rfl, ⟨by omega, (bnd _).1, (bnd _).2, hi⟩⟩, ?_, ?_⟩
        · rw [fmodE _ (by omega)]; exact Int.emod_nonneg _ hm0
        · rw [fmodE _ (by omega)]; exact Int.emod_lt_of_pos _ (by omega)
    · have hlt : ¬ ((i : Int) < (cells.length : Int)) := by omega
      simp [B_law_take, hnd, a0, a1, a2, a3, a4, b1_, b2_, b3_, b4_, hlt, e1, mul1, mulc, mulk, d1, d2, d3, m1, m2, M]
      refine ⟨_, _, ⟨rfl, rfl⟩, ⟨cells, i, 0, _, c + 1, rfl, ⟨by omega, (bnd _).1, (bnd _).2, hi1⟩⟩, ?_, ?_⟩
      · rw [fmodE _ (by omega)]; exact Int.emod_nonneg _ hm0
      · rw [fmodE _ (by omega)]; exact Int.emod_lt_of_pos _ (by omega)
  · have hpos : 0 < b := by omega
    simp [B_law_take, hnd, a0, a1, a2, a3, a4, b1_, b2_, b3_, b4_, hb, hpos, M, V]
    refine ⟨_, _, ⟨rfl, rfl⟩, ⟨cells, i, _, s, c + 1, rfl, ⟨?_, hs, hs1, hi1⟩⟩, ?_, ?_⟩
    · rw [fdivE _ (by omega)]; exact Int.ediv_nonneg (by omega) (by omega)
    · rw [fmodE _ (by omega)]; exact Int.emod_nonneg _ hm0
    · rw [fmodE _ (by omega)]; exact Int.emod_lt_of_pos _ (by omega)
theorem at_lst {ds : List D} {k : Nat} (h : k < ds.length) : fAt (.lst ds) (.int k) = some ds[k] := by
  show atI ds (k : Int) = _
  unfold atI
  have : ixN ds.length (k : Int) = some k := by
    unfold ixN
    simp [h]
  rw [this]
  simp [h]
theorem pick_ok {d : D} (h : Hand d) {ds : List D} (h1 : 1 ≤ ds.length) (h2 : ds.length ≤ 1000) : ∃ x d', M_law_pick [d, .lst ds] = .rt x [.b d'] ∧ Hand d' ∧ x ∈ ds := by
  obtain ⟨r, d', e, hd, r0, r1⟩ := take_ok h (m := ds.length) (by omega) (by omega)
  have hk : r.toNat < ds.length := by omega
  have er : r = ((r.toNat : Nat) : Int) := by omega
  have ea := at_lst hk
  rw [← er] at ea
  suffices h : ∃ s', B_law_pick [.b d, .d (.lst ds)] = .rt ds[r.toNat] (.b d' :: s') by
    obtain ⟨s', e⟩ := h
    exact ⟨_, d', (fnB_eq (n := 2) (m := [true]) (b := B_law_pick) (ds := [d, .lst ds]) e), hd, List.getElem_mem hk⟩
  simp [B_law_pick, e, ea]
theorem units_ok {d : D} (h : Hand d) {sp : Int} (h0 : 0 ≤ sp) (h1 : sp ≤ 999999) : ∃ x d', M_law_units [d, .int sp] = .rt (.int x) [.b d'] ∧ Hand d' ∧ 0 ≤ x ∧ x ≤ sp := by
  obtain ⟨r1, d1, e1, hd1, a1, b1⟩ := take_ok h (m := sp + 1) (by omega) (by omega)
  obtain ⟨r2, d2, e2, hd2, a2, b2⟩ := take_ok hd1 (m := sp + 1) (by omega) (by omega)
  obtain ⟨x, d3, e3, hd3, hx⟩ := pick_ok hd2 (ds := [.int 0, .int r1, .int r2, .int sp]) (by simp) (by simp)
  have hx : ∃ z, x = .int z ∧ 0 ≤ z ∧ z ≤ sp := by
    simp at hx
    rcases hx with rfl | rfl | rfl | rfl
    · exact ⟨_, rfl, by omega, by omega⟩
    · exact ⟨_, rfl, by omega, by omega⟩
    · exact ⟨_, rfl, by omega, by omega⟩
    · exact ⟨_, rfl, by omega, by omega⟩
  obtain ⟨z, rfl, z0, z1⟩ := hx
  suffices h : ∃ s', B_law_units [.b d, .d (.int sp)] = .rt (.int z) (.b d3 :: s') by
    obtain ⟨s', e⟩ := h
    exact ⟨z, d3, (fnB_eq (n := 2) (m := [true]) (b := B_law_units) (ds := [d, .int sp]) e), hd3, z0, z1⟩
  simp [B_law_units, e1, e2, szR_ok, e3]
theorem sizes_ok {d : D} (h : Hand d) : ∃ n d', M_law_sizes [d] = .rt (.int n) [.b d'] ∧ Hand d' ∧ 2 ≤ n ∧ n ≤ 10 := by
  obtain ⟨x, d3, e3, hd3, hx⟩ := pick_ok h (ds := [.int 2, .int 3, .int 4, .int 5, .int 6, .int 6, .int 10]) (by simp) (by simp)
  have hx : ∃ z, x = .int z ∧ 2 ≤ z ∧ z ≤ 10 := by
    simp at hx
    rcases hx with rfl | rfl | rfl | rfl | rfl | rfl <;> exact ⟨_, rfl, by omega, by omega⟩
  obtain ⟨z, rfl, z0, z1⟩ := hx
  suffices h : ∃ s', B_law_sizes [.b d] = .rt (.int z) (.b d3 :: s') by
    obtain ⟨s', e⟩ := h
    exact ⟨z, d3, (fnB_eq (n := 1) (m := [true]) (b := B_law_sizes) (ds := [d]) e), hd3, z0, z1⟩
  simp [B_law_sizes, szLst_ok, e3]
/-! ### the drawn web -/
def pairD2 (p : Int × Int) : D := .tup [.int p.1, .int p.2]
def PairsOk (n : Int) (ps : List D) : Prop := ∀ p ∈ ps, ∃ a b : Int, p = .tup [.int a, .int b] ∧ 0 ≤ a ∧ a < b ∧ b < n
theorem PairsOk.snoc {n a b : Int} {ps : List D} (h : PairsOk n ps) (h0 : 0 ≤ a) (h1 : a < b) (h2 : b < n) : PairsOk n (ps ++ [.tup [.int a, .int b]]) := fun p hp => by
  rcases List.mem_append.mp hp with hp | hp
  · exact h p hp
  · rw [List.mem_singleton.mp hp]; exact ⟨a, b, rfl, h0, h1, h2⟩
/-- the first loop's body -/
theorem web1 {d : D} (h : Hand d) {n k sh : Int} {ps : List D} {x5 : Sl} {r : En} (hk : 1 ≤ k) (hkn : k < n) (hn : n ≤ 10) (hp : PairsOk n ps) (hl : ps.length < 100) :
    ∃ d' ps' x5', (mSeq (mAsg 5 (mCall 2 [true] M_law_take (aCons (oOwn 0) (aCons (eO (mP (pVar 4))) (aNil)))))
    (mSeq (mIf (tPu (pOp2 (eqD false) (pVar 3) (pC (.int 0)))) (mAsg 5 (mP (pOp2 fSub (pVar 4) (pC (.int 1))))) (mNext))
    (mIf (mOr (tPu (pOp2 (eqD true) (pVar 3) (pC (.int 1)))) (mTest (mOp2 fGt (eO (mCall 2 [true] M_law_take (aCons (oOwn 0) (aCons (eO (mP (pC (.int 3)))) (aNil))))) (eO (mP (pC (.int 0))))))) (mExpr (mMt fApp tabF0 2 [] (psCons (pTup (psCons (pVar 5) (psCons (pVar 4) (psNil)))) (psNil)))) (mNext)))) (.b d :: .d (.int n) :: .b (.lst ps) :: .d (.int sh) :: .d (.int k) :: x5 :: r) =
      .nx (.b d' :: .d (.int n) :: .b (.lst ps') :: .d (.int sh) :: .d (.int k) :: x5' :: r) ∧ Hand d' ∧ PairsOk n ps' ∧ ps'.length ≤ ps.length + 1 := by
  obtain ⟨r1, d1, e1, hd1, a1, b1⟩ := take_ok h (m := k) (by omega) (by omega)
  obtain ⟨r2, d2, e2, hd2, a2, b2⟩ := take_ok hd1 (m := 3) (by omega) (by omega)
  have hl1 : ps.length < 1000 := by omega
  by_cases s0 : sh = 0
  · subst s0
    refine ⟨d1, ps ++ [.tup [.int (k - 1), .int k]], .d (.int (k - 1)), ?_, hd1, hp.snoc (by omega) (by omega) (by omega), by simp⟩
    simp [e1, szTup_ok, appP_ok hl1]
  · by_cases s1 : sh = 1
    · subst s1
      by_cases hr : 0 < r2
      · refine ⟨d2, ps ++ [.tup [.int r1, .int k]], .d (.int r1), ?_, hd2, hp.snoc a1 b1 hkn, by simp⟩
        simp [e1, e2, hr, szTup_ok, appP_ok hl1]
      · refine ⟨d2, ps, .d (.int r1), ?_, hd2, hp, by simp⟩
        simp [e1, e2, hr]
    · refine ⟨d1, ps ++ [.tup [.int r1, .int k]], .d (.int r1), ?_, hd1, hp.snoc a1 b1 hkn, by simp⟩
      simp [e1, s0, s1, szTup_ok, appP_ok hl1]
/-- the second loop's body -/
theorem web2 {d : D} (h : Hand d) {n : Int} {ps : List D} {x3 x4 x5 x6 x7 x8 : Sl} {r : En} (h2 : 2 ≤ n) (hn : n ≤ 10) (hp : PairsOk n ps) (hl : ps.length < 100) :
    ∃ d' ps' x7' x8', (mSeq (mAsg 7 (mCall 2 [true] M_law_take (aCons (oOwn 0) (aCons (eO (mP (pVar 1))) (aNil)))))
    (mSeq (mAsg 8 (mCall 2 [true] M_law_take (aCons (oOwn 0) (aCons (eO (mP (pVar 1))) (aNil)))))
    (mIf (tPu (pOp2 fLt (pVar 7) (pVar 8))) (mExpr (mMt fApp tabF0 2 [] (psCons (pTup (psCons (pVar 7) (psCons (pVar 8) (psNil)))) (psNil)))) (mNext)))) (.b d :: .d (.int n) :: .b (.lst ps) :: x3 :: x4 :: x5 :: x6 :: x7 :: x8 :: r) =
      .nx (.b d' :: .d (.int n) :: .b (.lst ps') :: x3 :: x4 :: x5 :: x6 :: x7' :: x8' :: r) ∧ Hand d' ∧ PairsOk n ps' ∧ ps'.length ≤ ps.length + 1 := by
  obtain ⟨r1, d1, e1, hd1, a1, b1⟩ := take_ok h (m := n) (by omega) (by omega)
  obtain ⟨r2, d2, e2, hd2, a2, b2⟩ := take_ok hd1 (m := n) (by omega) (by omega)
  have hl1 : ps.length < 1000 := by omega
  by_cases hr : r1 < r2
  · refine ⟨d2, ps ++ [.tup [.int r1, .int r2]], .d (.int r1), .d (.int r2), ?_, hd2, hp.snoc a1 hr b2, by simp⟩
    simp [e1, e2, hr, szTup_ok, appP_ok hl1]
  · refine ⟨d2, ps, .d (.int r1), .d (.int r2), ?_, hd2, hp, by simp⟩
    simp [e1, e2, hr]
/-! ties -/
structure Tie where
  a : Int
  b : Int
  t : Int
  u : Int
def Tie.d (x : Tie) : D := .tup [.int x.a, .int x.b, .int x.t, .int x.u]
def Tie.ok (n : Int) (x : Tie) : Prop := 0 ≤ x.a ∧ x.a < x.b ∧ x.b < n ∧ 0 ≤ x.t ∧ x.t ≤ 999999 ∧ 0 ≤ x.u ∧ x.u ≤ 999999
def Tie.code (x : Tie) : Nat := codeP x.a x.b
theorem v_addT {xs ys : List D} (h : xs.length + ys.length ≤ 1000) : fAdd (.tup xs) (.tup ys) = some (.tup (xs ++ ys)) := if_pos (Nat.le_trans h (by rw [sizeLine_eq]; decide))
theorem cdsOf {n : Int} (hn : n ≤ 10) : ∀ {ps : List D}, PairsOk n ps → ∃ cs, codesD ps = some cs ∧ ∀ c ∈ cs, ∃ a b : Int, c = codeP a b ∧ 0 ≤ a ∧ a < b ∧ b < n
  | [], _ => ⟨[], rfl, fun c h => by cases h⟩
  | p :: ps, h => by
    obtain ⟨cs, e, hc⟩ := cdsOf hn fun q hq => h q (List.mem_cons_of_mem _ hq)
    obtain ⟨a, b, rfl, h0, h1, h2⟩ := h p (List.mem_cons_self ..)
    refine ⟨codeP a b :: cs, ?_, fun c hc' => ?_⟩
    · unfold codesD
      rw [e]
      have : codeD (.tup [.int a, .int b]) = some (codeP a b) := if_pos (show 0 ≤ a ∧ a < 64 ∧ 0 ≤ b ∧ b < 64 by omega)
      rw [this]
    · rcases List.mem_cons.mp hc' with z | z
      · exact ⟨a, b, z, h0, h1, h2⟩
      · exact hc c z
/-- the third loop's body -/
theorem web3 {d : D} (h : Hand d) {a b sp : Int} {L : List Tie} {x1 x2 x3 x4 x5 x6 x7 x8 x12 x13 : Sl} (h0 : 0 ≤ sp) (h1 : sp ≤ 999999) (hl : L.length < 100) :
    ∃ d' t u, (mExpr (mMtX fApp 10 (aCons (eO (mOp2 fAdd (eO (mP (pVar 11))) (eO (mTup (aCons (eO (mCall 2 [true] M_law_units (aCons (oOwn 0) (aCons (eO (mP (pVar 9))) (aNil))))) (aCons (eO (mCall 2 [true] M_law_units (aCons (oOwn 0) (aCons (eO (mP (pVar 9))) (aNil))))) (aNil))))))) (aNil)))) [.b d, x1, x2, x3, x4, x5, x6, x7, x8, .d (.int sp), .b (.lst (L.map Tie.d)), .d (.tup [.int a, .int b]), x12, x13] =
      .nx [.b d', x1, x2, x3, x4, x5, x6, x7, x8, .d (.int sp), .b (.lst ((L ++ [Tie.mk a b t u]).map Tie.d)), .d (.tup [.int a, .int b]), x12, x13] ∧ Hand d' ∧ 0 ≤ t ∧ t ≤ 999999 ∧ 0 ≤ u ∧ u ≤ 999999 := by
  obtain ⟨t, d1, e1, hd1, a1, b1⟩ := units_ok h h0 h1
  obtain ⟨u, d2, e2, hd2, a2, b2⟩ := units_ok hd1 h0 h1
  have hl1 : (L.map Tie.d).length < 1000 := by rw [List.length_map]; omega
  refine ⟨d2, t, u, ?_, hd2, a1, by omega, a2, by omega⟩
  simp [e1, e2, szR_ok, v_addT, appP_ok hl1, Tie.d]
/-- a drawn web: the number of houses, the ties by their order, spring, mouth -/
structure Plan where
  n : Int
  L : List Tie
  s : Int
  m : Int
def Plan.d (p : Plan) : D := .tup [.int p.n, .tup (p.L.map Tie.d), .int p.s, .int p.m]
structure Plan.Ok (p : Plan) : Prop where
  n2 : 2 ≤ p.n
  n10 : p.n ≤ 10
  t : ∀ x ∈ p.L, x.ok p.n
  up : (p.L.map Tie.code).Pairwise (· < ·)
  len : p.L.length ≤ 63
  s0 : 0 ≤ p.s
  s1 : p.s < p.n
  m0 : 0 ≤ p.m
  m1 : p.m < p.n
  ne : p.m ≠ p.s
def codesF (cs : List Nat) : List Nat := (List.range 4096).filter fun c => cs.contains c
theorem setD_eq (cs : List Nat) : setD cs = (codesF cs).map Mir.pairD := rfl
theorem codesF_up (cs : List Nat) : (codesF cs).Pairwise (· < ·) := List.Pairwise.filter _ List.pairwise_lt_range
theorem codesF_mem {cs : List Nat} {c : Nat} (h : c ∈ codesF cs) : c ∈ cs := by
  have := (List.mem_filter.mp h).2
  exact List.contains_iff_mem.mp this
theorem pairD_eq {a b : Int} (h0 : 0 ≤ a) (h1 : a < b) (h2 : b < 64) : Mir.pairD (codeP a b) = .tup [.int a, .int b] := by
  unfold Mir.pairD codeP
  have e1 : ((a.toNat * 64 + b.toNat) / 64 : Nat) = a.toNat := by omega
  have e2 : ((a.toNat * 64 + b.toNat) % 64 : Nat) = b.toNat := by omega
  rw [e1, e2, Int.toNat_of_nonneg h0, Int.toNat_of_nonneg (by omega)]
/-- the third loop -/
theorem web3L {n sp : Int} (hn : n ≤ 10) (h0 : 0 ≤ sp) (h1 : sp ≤ 999999) {x1 x2 x3 x4 x5 x6 x7 x8 x12 x13 : Sl} : ∀ (cs : List Nat), (∀ c ∈ cs, ∃ a b : Int, c = codeP a b ∧ 0 ≤ a ∧ a < b ∧ b < n) → ∀ {d : D} {L : List Tie} {x11 : Sl}, Hand d → (∀ x ∈ L, x.ok n) → L.length + cs.length < 100 →
    ∃ (d' : D) (L' : List Tie) (x11' : Sl), forL (gSet 11) (mExpr (mMtX fApp 10 (aCons (eO (mOp2 fAdd (eO (mP (pVar 11))) (eO (mTup (aCons (eO (mCall 2 [true] M_law_units (aCons (oOwn 0) (aCons (eO (mP (pVar 9))) (aNil))))) (aCons (eO (mCall 2 [true] M_law_units (aCons (oOwn 0) (aCons (eO (mP (pVar 9))) (aNil))))) (aNil))))))) (aNil)))) (cs.map Mir.pairD) [.b d, x1, x2, x3, x4, x5, x6, x7, x8, .d (.int sp), .b (.lst (L.map Tie.d)), x11, x12, x13] =
      .nx [.b d', x1, x2, x3, x4, x5, x6, x7, x8, .d (.int sp), .b (.lst (L'.map Tie.d)), x11', x12, x13] ∧ Hand d' ∧ (∀ x ∈ L', x.ok n) ∧ L'.map Tie.code = L.map Tie.code ++ cs
  | [], _, d, L, x11, hd, hL, _ => ⟨d, L, x11, rfl, hd, hL, by simp⟩
  | c :: cs, hc, d, L, x11, hd, hL, hl => by
    obtain ⟨a, b, rfl, q0, q1, q2⟩ := hc c (List.mem_cons_self ..)
    have hl' : L.length < 100 := by simp at hl; omega
    obtain ⟨d1, t, u, e, hd1, t0, t1, u0, u1⟩ := web3 hd (a := a) (b := b) (sp := sp) (L := L) (x1 := x1) (x2 := x2) (x3 := x3) (x4 := x4) (x5 := x5) (x6 := x6) (x7 := x7) (x8 := x8) (x12 := x12) (x13 := x13) h0 h1 hl'
    obtain ⟨d2, L2, x2', e2, hd2, hL2, hm⟩ := web3L hn h0 h1 (x1 := x1) (x2 := x2) (x3 := x3) (x4 := x4) (x5 := x5) (x6 := x6) (x7 := x7) (x8 := x8) (x12 := x12) (x13 := x13) cs (fun c hc' => hc c (List.mem_cons_of_mem _ hc')) (d := d1) (L := L ++ [Tie.mk a b t u]) (x11 := .d (.tup [.int a, .int b])) hd1 (fun x hx => by
      rcases List.mem_append.mp hx with hx | hx
      · exact hL x hx
      · rw [List.mem_singleton.mp hx]; exact ⟨q0, q1, q2, t0, t1, u0, u1⟩) (by simp at hl ⊢; omega)
    refine ⟨d2, L2, x2', ?_, hd2, hL2, by rw [hm]; simp [Tie.code]⟩
    rw [List.map_cons, pairD_eq q0 q1 (by omega)]
    unfold forL
    simp only [ev_gSet, List.set_cons_succ, List.set_cons_zero]
    rw [e]
    exact e2
theorem v_tupleL {ds : List D} : fTuple [.lst ds] = some (.tup ds) := rfl
theorem codesD_length : ∀ {ps : List D} {cs : List Nat}, codesD ps = some cs → cs.length = ps.length
  | [], _, h => by cases h; rfl
  | p :: ps, cs, h => by
    unfold codesD at h
    split at h
    · rename_i e1 e2
      cases h
      exact congrArg Nat.succ (codesD_length e2)
    · cases h
theorem web1L {n sh : Int} (h2 : 2 ≤ n) (hn : n ≤ 10) {d : D} (h : Hand d) {x4 x5 : Sl} {r : En} :
    ∃ (d' : D) (ps : List D) (x4' x5' : Sl), forL (gSet 4) (mSeq (mAsg 5 (mCall 2 [true] M_law_take (aCons (oOwn 0) (aCons (eO (mP (pVar 4))) (aNil)))))
    (mSeq (mIf (tPu (pOp2 (eqD false) (pVar 3) (pC (.int 0)))) (mAsg 5 (mP (pOp2 fSub (pVar 4) (pC (.int 1))))) (mNext))
    (mIf (mOr (tPu (pOp2 (eqD true) (pVar 3) (pC (.int 1)))) (mTest (mOp2 fGt (eO (mCall 2 [true] M_law_take (aCons (oOwn 0) (aCons (eO (mP (pC (.int 3)))) (aNil))))) (eO (mP (pC (.int 0))))))) (mExpr (mMt fApp tabF0 2 [] (psCons (pTup (psCons (pVar 5) (psCons (pVar 4) (psNil)))) (psNil)))) (mNext)))) (rangeD 1 n) (.b d :: .d (.int n) :: .b (.lst []) :: .d (.int sh) :: x4 :: x5 :: r) =
      .nx (.b d' :: .d (.int n) :: .b (.lst ps) :: .d (.int sh) :: x4' :: x5' :: r) ∧ Hand d' ∧ PairsOk n ps ∧ ps.length ≤ 9 := by
  obtain ⟨s', e, d', ps, x4', x5', rfl, hd, hp, hl⟩ := forL_idx (rangeD 1 n) (fun i s => ∃ (d' : D) (ps : List D) (x4' x5' : Sl), s = (.b d' :: .d (.int n) :: .b (.lst ps) :: .d (.int sh) :: x4' :: x5' :: r) ∧ Hand d' ∧ PairsOk n ps ∧ ps.length ≤ i) (g := gSet 4) (b := mSeq (mAsg 5 (mCall 2 [true] M_law_take (aCons (oOwn 0) (aCons (eO (mP (pVar 4))) (aNil)))))
    (mSeq (mIf (tPu (pOp2 (eqD false) (pVar 3) (pC (.int 0)))) (mAsg 5 (mP (pOp2 fSub (pVar 4) (pC (.int 1))))) (mNext))
    (mIf (mOr (tPu (pOp2 (eqD true) (pVar 3) (pC (.int 1)))) (mTest (mOp2 fGt (eO (mCall 2 [true] M_law_take (aCons (oOwn 0) (aCons (eO (mP (pC (.int 3)))) (aNil))))) (eO (mP (pC (.int 0))))))) (mExpr (mMt fApp tabF0 2 [] (psCons (pTup (psCons (pVar 5) (psCons (pVar 4) (psNil)))) (psNil)))) (mNext))))
    (.b d :: .d (.int n) :: .b (.lst []) :: .d (.int sh) :: x4 :: x5 :: r) (fun i dd s hd ⟨d0, ps, y4, y5, es, hd0, hp, hl⟩ => by
      obtain ⟨rfl, hlt⟩ := rangeD_get hd
      subst es
      obtain ⟨d1, ps1, z5, e1, q1, q2, q3⟩ := web1 hd0 (n := n) (k := 1 + i) (sh := sh) (ps := ps) (x5 := y5) (r := r) (by omega) hlt hn hp (by omega)
      exact ⟨_, rfl, _, e1, d1, ps1, _, z5, rfl, q1, q2, by omega⟩) ⟨d, [], x4, x5, rfl, h, (fun p hp => by cases hp), by simp⟩
  exact ⟨d', ps, x4', x5', e, hd, hp, by rw [rangeD_length] at hl; omega⟩
theorem web2L {n c : Int} (h2 : 2 ≤ n) (hn : n ≤ 10) (hc : c ≤ 21) {d : D} (h : Hand d) {ps : List D} (hp : PairsOk n ps) (hl : ps.length ≤ 9) {x3 x4 x5 x6 x7 x8 : Sl} {r : En} :
    ∃ (d' : D) (ps' : List D) (x6' x7' x8' : Sl), forL (gSet 6) (mSeq (mAsg 7 (mCall 2 [true] M_law_take (aCons (oOwn 0) (aCons (eO (mP (pVar 1))) (aNil)))))
    (mSeq (mAsg 8 (mCall 2 [true] M_law_take (aCons (oOwn 0) (aCons (eO (mP (pVar 1))) (aNil)))))
    (mIf (tPu (pOp2 fLt (pVar 7) (pVar 8))) (mExpr (mMt fApp tabF0 2 [] (psCons (pTup (psCons (pVar 7) (psCons (pVar 8) (psNil)))) (psNil)))) (mNext)))) (rangeD 0 c) (.b d :: .d (.int n) :: .b (.lst ps) :: x3 :: x4 :: x5 :: x6 :: x7 :: x8 :: r) =
      .nx (.b d' :: .d (.int n) :: .b (.lst ps') :: x3 :: x4 :: x5 :: x6' :: x7' :: x8' :: r) ∧ Hand d' ∧ PairsOk n ps' ∧ ps'.length ≤ 30 := by
  obtain ⟨s', e, d', ps', x6', x7', x8', rfl, hd, hp', hl'⟩ := forL_idx (rangeD 0 c) (fun i s => ∃ (d' : D) (ps' : List D) (x6' x7' x8' : Sl), s = (.b d' :: .d (.int n) :: .b (.lst ps') :: x3 :: x4 :: x5 :: x6' :: x7' :: x8' :: r) ∧ Hand d' ∧ PairsOk n ps' ∧ ps'.length ≤ 9 + i) (g := gSet 6) (b := mSeq (mAsg 7 (mCall 2 [true] M_law_take (aCons (oOwn 0) (aCons (eO (mP (pVar 1))) (aNil)))))
    (mSeq (mAsg 8 (mCall 2 [true] M_law_take (aCons (oOwn 0) (aCons (eO (mP (pVar 1))) (aNil)))))
    (mIf (tPu (pOp2 fLt (pVar 7) (pVar 8))) (mExpr (mMt fApp tabF0 2 [] (psCons (pTup (psCons (pVar 7) (psCons (pVar 8) (psNil)))) (psNil)))) (mNext))))
    (.b d :: .d (.int n) :: .b (.lst ps) :: x3 :: x4 :: x5 :: x6 :: x7 :: x8 :: r) (fun i dd s hdd ⟨d0, ps0, y6, y7, y8, es, hd0, hp0, hl0⟩ => by
      obtain ⟨rfl, hlt⟩ := rangeD_get hdd
      subst es
      obtain ⟨d1, ps1, z7, z8, e1, q1, q2, q3⟩ := web2 hd0 (n := n) (ps := ps0) (x3 := x3) (x4 := x4) (x5 := x5) (x6 := .d (.int (0 + i))) (x7 := y7) (x8 := y8) (r := r) h2 hn hp0 (by omega)
      exact ⟨_, rfl, _, e1, d1, ps1, _, z7, z8, rfl, q1, q2, by omega⟩) ⟨d, ps, x6, x7, x8, rfl, h, hp, by omega⟩
  exact ⟨d', ps', x6', x7', x8', e, hd, hp', by rw [rangeD_length] at hl'; omega⟩
theorem web_ok {d : D} (h : Hand d) {n : Int} (h2 : 2 ≤ n) (hn : n ≤ 10) : ∃ (p : Plan) (d' : D), M_law_web [d, .int n] = .rt p.d [.b d'] ∧ Hand d' ∧ p.Ok ∧ p.n = n := by
  obtain ⟨sh, d1, e1, hd1, _, _⟩ := take_ok h (m := 4) (by omega) (by omega)
  obtain ⟨d2, ps, y4, y5, eL1, hd2, hp, hl⟩ := web1L (sh := sh) h2 hn hd1 (x4 := .no) (x5 := .no) (r := [.no, .no, .no, .no, .no, .no, .no, .no])
  obtain ⟨c, d3, e3, hd3, c0, c1⟩ := take_ok hd2 (m := n * 2 + 1) (by omega) (by omega)
  obtain ⟨d4, ps2, y6, y7, y8, eL2, hd4, hp2, hl2⟩ := web2L (c := c) h2 hn (by omega) hd3 hp hl (x3 := .d (.int sh)) (x4 := y4) (x5 := y5) (x6 := .no) (x7 := .no) (x8 := .no) (r := [.no, .no, .no, .no, .no])
  obtain ⟨x, d5, e5, hd5, hx⟩ := pick_ok hd4 (ds := [.int 1, .int 3, .int 9, .int 999999]) (by simp) (by simp)
  have hx : ∃ z : Int, x = .int z ∧ 0 ≤ z ∧ z ≤ 999999 := by
    simp at hx
    rcases hx with rfl | rfl | rfl | rfl <;> exact ⟨_, rfl, by omega, by omega⟩
  obtain ⟨sp, rfl, sp0, sp1⟩ := hx
  obtain ⟨cs, ec, hcs⟩ := cdsOf hn hp2
  have es : fSortS (.lst ps2) = some (.lst ((codesF cs).map Mir.pairD)) := by
    show (match codesD ps2 with | some cs => if ps2.length < 64 then some (D.lst (setD cs)) else none | none => none) = _
    rw [ec]
    exact if_pos (show ps2.length < 64 by omega)
  have hcl : (codesF cs).length ≤ 63 := by
    have q := L2.nat_nodup_len (codesF cs) cs ((codesF_up cs).imp fun h => Nat.ne_of_lt h) fun x hx => codesF_mem hx
    have := codesD_length ec
    omega
  obtain ⟨d6, L, y11, eL3, hd6, hL, hm⟩ := web3L hn sp0 sp1 (codesF cs) (fun c hc => hcs c (codesF_mem hc)) (x1 := .d (.int n)) (x2 := .b (.lst ps2)) (x3 := .d (.int sh)) (x4 := y4) (x5 := y5) (x6 := y6) (x7 := y7) (x8 := y8) (x12 := .no) (x13 := .no) hd5 (L := []) (x11 := .no) (fun x hx => by cases hx) (by simp; omega)
  rw [List.map_nil] at eL3
  obtain ⟨a, d7, e7, hd7, a0, a1⟩ := take_ok hd6 (m := n) (by omega) (by omega)
  obtain ⟨t, d8, e8, hd8, t0, t1⟩ := take_ok hd7 (m := n - 1) (by omega) (by omega)
  have em : fMod (.int (a + 1 + t)) (.int n) = some (.int ((a + 1 + t).fmod n)) := v_mod (by omega)
  have hmod := fmodE (a + 1 + t) (j := n) (by omega)
  suffices hh : ∃ s', B_law_web [.b d, .d (.int n), .no, .no, .no, .no, .no, .no, .no, .no, .no, .no, .no, .no] = .rt (Plan.d ⟨n, L, a, (a + 1 + t).fmod n⟩) (.b d8 :: s') by
    obtain ⟨s', e⟩ := hh
    refine ⟨⟨n, L, a, (a + 1 + t).fmod n⟩, d8, (fnB_eq (n := 14) (m := [true]) (b := B_law_web) (ds := [d, .int n]) e), hd8, ⟨h2, hn, hL, by rw [hm]; exact codesF_up cs, ?_, a0, a1, ?_, ?_, ?_⟩, rfl⟩
    · have := congrArg List.length hm; simp at this; show L.length ≤ 63; omega
    · show 0 ≤ (a + 1 + t).fmod n; rw [hmod]; exact Int.emod_nonneg _ (by omega)
    · show (a + 1 + t).fmod n < n; rw [hmod]; exact Int.emod_lt_of_pos _ (by omega)
    · show (a + 1 + t).fmod n ≠ a
      rw [hmod]
      intro hh
      have hdm := Int.mul_ediv_add_emod (a + 1 + t) n
      rw [hh] at hdm
      have q0 : 0 < n * ((a + 1 + t) / n) := by omega
      have q1 : n * ((a + 1 + t) / n) < n := by omega
      have q2 : 0 < (a + 1 + t) / n := by
        rcases Int.lt_or_le 0 ((a + 1 + t) / n) with q | q
        · exact q
        · have := Int.mul_nonpos_of_nonneg_of_nonpos (show 0 ≤ n by omega) q
          omega
      have := Int.mul_le_mul_of_nonneg_left (show 1 ≤ (a + 1 + t) / n by omega) (show 0 ≤ n by omega)
      omega
  have r1 : rgR2 (s := [.b d1, .d (.int n), .b (.lst []), .d (.int sh), .no, .no, .no, .no, .no, .no, .no, .no, .no, .no]) (some [.int 1, .int n]) = .ok (rangeD 1 n) _ := rgR2_ok (by omega) (by omega) (by omega) (by omega)
  have f2 : fMulA (.int n) (.int 2) = some (.int (n * 2)) := v_mulA (.inr (by decide))
  have r2 : ∀ s, rgR1 (some [.int c]) s = .ok (rangeD 0 c) s := fun s => rgR1_ok c0 (by omega)
  simp [B_law_web, szR_ok, e1, r1, eL1, f2, e3, r2, eL2, szLst_ok, e5, pSortS, es, eL3, e7, e8, em, szTup_ok, Plan.d, v_tupleL]
/-! ### the package's and the law's small tests -/
def Gd : D → Prop
  | .box _ => False
  | .ins c _ => c = "Web"
  | _ => True
def isI : D → Bool
  | .int _ => true
  | _ => false
def isB : D → Bool
  | .bl _ => true
  | _ => false
def isT : D → Bool
  | .tup _ => true
  | _ => false
def isS : D → Bool
  | .str _ => true
  | _ => false
def isL : D → Bool
  | .lst _ => true
  | _ => false
theorem i_int {d : D} (h : Gd d) : isi_int d = some (isI d || isB d) := by
  cases d with
  | ins c fs => cases (show c = "Web" from h); rfl
  | box d => exact h.elim
  | _ => rfl
theorem i_bool {d : D} (h : Gd d) : isi_bool d = some (isB d) := by
  cases d with
  | ins c fs => cases (show c = "Web" from h); rfl
  | box d => exact h.elim
  | _ => rfl
theorem i_tuple {d : D} (h : Gd d) : isi_tuple d = some (isT d) := by
  cases d with
  | ins c fs => cases (show c = "Web" from h); rfl
  | box d => exact h.elim
  | _ => rfl
theorem fnB_rt {n : Nat} {m : List Bool} {b : MS} {ds : List D} {d : D} (h : ∃ s, b (args m ds ++ List.replicate (n - ds.length) .no) = .rt d s) : outV (fnB n m b ds) = .ok d := by
  obtain ⟨s, e⟩ := h
  rw [fnB_eq e]; rfl
theorem isint {d : D} (h : Gd d) : outV (M_is_integer [d]) = .ok (.bl (isI d)) := by
  refine fnB_rt ?_
  have e1 := i_int h
  have e2 := i_bool h
  cases hi : isI d <;> cases hb : isB d <;> simp [B_is_integer, args, ev_and, e1, e2, hi, hb]
  cases d <;> simp [isI, isB] at hi hb
theorem lisint {d : D} (h : Gd d) : outV (M_law_is_integer [d]) = .ok (.bl (isI d)) := isint h
/-- a whole number within bounds -/
def inR (d : D) (lo hi : Int) : Bool := match d with
  | .int i => decide (lo ≤ i) && decide (i ≤ hi)
  | _ => false
theorem isin {d : D} (h : Gd d) {lo hi : Int} : outV (M_is_within [d, .int lo, .int hi]) = .ok (.bl (inR d lo hi)) := by
  refine fnB_rt ?_
  have e1 := isint h
  cases d with
  | int i =>
    have e1 : outV (M_is_integer [.int i]) = .ok (.bl true) := e1
    by_cases h1 : lo ≤ i <;> simp [B_is_within, args, ev_and, e1, h1, inR]
  | _ => simp [B_is_within, args, ev_and, e1, isI, inR]
theorem lisin {d : D} (h : Gd d) {lo hi : Int} : outV (M_law_is_within [d, .int lo, .int hi]) = .ok (.bl (inR d lo hi)) := by
  refine fnB_rt ?_
  have e1 := lisint h
  cases d with
  | int i =>
    have e1 : outV (M_law_is_integer [.int i]) = .ok (.bl true) := e1
    by_cases h1 : lo ≤ i <;> simp [B_law_is_within, args, ev_and, e1, h1, inR]
  | _ => simp [B_law_is_within, args, ev_and, e1, isI, inR]
theorem isbel {d : D} (h : Gd d) {n : Int} : outV (M_is_below [d, .int n]) = .ok (.bl (inR d 0 (n - 1))) := by
  refine fnB_rt ?_
  simp [B_is_below, args, isin h]
theorem t0 {a b c d : D} : fAt (.tup [a, b, c, d]) (.int 0) = some a := rfl
theorem t1 {a b c d : D} : fAt (.tup [a, b, c, d]) (.int 1) = some b := rfl
theorem t2 {a b c d : D} : fAt (.tup [a, b, c, d]) (.int 2) = some c := rfl
theorem t3 {a b c d : D} : fAt (.tup [a, b, c, d]) (.int 3) = some d := rfl
theorem inR_int {d : D} {lo hi : Int} (h : inR d lo hi = true) : ∃ i, d = .int i ∧ lo ≤ i ∧ i ≤ hi := by
  cases d with
  | int i =>
    unfold inR at h
    simp at h
    exact ⟨i, rfl, h⟩
  | _ => cases h
def ltI : D → D → Bool
  | .int i, .int j => decide (i < j)
  | _, _ => false
/-- a right tie -/
def tieR (n : Int) : D → Bool
  | .tup [a, b, t, u] => inR a 0 (n - 1) && (inR b 0 (n - 1) && (ltI a b && (inR t 0 999999 && inR u 0 999999)))
  | _ => false
def Gds (d : D) : Prop := Gd d ∧ ∀ ds, d = .tup ds → ∀ x ∈ ds, Gd x
theorem sized4 {ds : List D} : outV (M_is_sized [.tup ds, .int 4, .int 4]) = .ok (.bl (decide (ds.length = 4))) := by
  refine fnB_rt ?_
  have e1 := i_tuple (d := .tup ds) trivial
  by_cases h1 : (4 : Int) ≤ ds.length <;> by_cases h2 : (ds.length : Int) ≤ 4 <;> simp [B_is_sized, args, ev_and, e1, isT, h1, h2]
  all_goals omega
theorem sizedN {d : D} (h : Gd d) (hn : isT d = false) : outV (M_is_sized [d, .int 4, .int 4]) = .ok (.bl false) := by
  refine fnB_rt ?_
  have e1 := i_tuple h
  simp [B_is_sized, args, ev_and, e1, hn]
theorem istie {n : Int} {d : D} (h : Gds d) : outV (M_is_tie [.int n, d]) = .ok (.bl (tieR n d)) := by
  refine fnB_rt ?_
  by_cases ht : isT d = true
  · cases d with
    | tup ds =>
      by_cases hl : ds.length = 4
      · match ds, hl with
        | [a, b, t, u], _ =>
          have ga := h.2 _ rfl a (by simp)
          have gb := h.2 _ rfl b (by simp)
          have gt := h.2 _ rfl t (by simp)
          have gu := h.2 _ rfl u (by simp)
          have e1 : outV (M_is_sized [.tup [a, b, t, u], .int 4, .int 4]) = .ok (.bl true) := sized4
          cases ha : inR a 0 (n - 1)
          · simp [B_is_tie, args, e1, t0, isbel ga, ha, tieR]
          · cases hb : inR b 0 (n - 1)
            · simp [B_is_tie, args, e1, t0, t1, isbel ga, isbel gb, ha, hb, tieR]
            · obtain ⟨i, rfl, _⟩ := inR_int ha
              obtain ⟨j, rfl, _⟩ := inR_int hb
              by_cases hij : i < j <;> cases hx : inR t 0 999999 <;> cases hy : inR u 0 999999 <;> simp [B_is_tie, args, e1, t0, t1, t2, t3, isbel ga, isbel gb, isbel gt, isbel gu, ha, hb, tieR, ltI, hij, hx, hy, ev_and]
      · have e1 : outV (M_is_sized [.tup ds, .int 4, .int 4]) = .ok (.bl false) := by rw [sized4]; simp [hl]
        have e2 : tieR n (.tup ds) = false := by
          unfold tieR
          split
          · rename_i h; cases h; exact absurd rfl hl
          · rfl
        simp [B_is_tie, args, e1, e2]
    | _ => cases ht
  · rw [Bool.not_eq_true] at ht
    have e1 := sizedN h.1 ht
    have e2 : tieR n d = false := by
      cases d with
      | tup ds => cases ht
      | _ => rfl
    simp [B_is_tie, args, e1, e2]
/-! ### the first wrong tie -/
def partR (r : Pr) : Prp := match r with
  | .ok (.int i) => .ok (some i)
  | .ok _ => .bad
  | .ex c fs => .ex c fs
  | .bad => .bad
@[simp] theorem ev_partI {i : Int} : partR (.ok (.int i)) = .ok (some i) := rfl
@[simp] theorem ev_part {a : MP} {s : En} : pPart a s = partR (a s) := by
  unfold pPart partR
  cases a s with
  | ok d => cases d <;> rfl
  | _ => rfl
@[simp] theorem ev_noPart {s : En} : pNoPart s = .ok none := rfl
@[simp] theorem ev_pbind {o : Option Int} {k : Option Int → Pr} : (Prp.ok o).bind k = k o := rfl
@[simp] theorem ev_pSl {f : D → Option Int → Option Int → Option D} {oa : MP} {lo hi : En → Prp} {s : En} : pSl f oa lo hi s = (oa s).bind fun x => (lo s).bind fun l => (hi s).bind fun h => .of (f x l h) := rfl
theorem cut2 {a b t u : D} : fSl (.tup [a, b, t, u]) none (some 2) = some (.tup [a, b]) := rfl
def le2 : D → D → Bool
  | .tup [.int a, .int b, _, _], .tup [.int a', .int b', _, _] => lexLe [a, b] [a', b']
  | _, _ => false
def above (p : Option D) (d : D) : Bool := match p with
  | some q => !le2 d q
  | none => true
def badT (n : Int) : Nat → Option D → List D → Option Nat
  | _, _, [] => none
  | k, p, d :: ds => if (tieR n d && above p d) = true then badT n (k + 1) (some d) ds else some k
theorem tieR_form {n : Int} {d : D} (h : tieR n d = true) : ∃ a b t u, d = .tup [.int a, .int b, t, u] := by
  unfold tieR at h
  split at h
  · rename_i a b t u
    simp only [Bool.and_eq_true] at h
    obtain ⟨i, rfl, _⟩ := inR_int h.1
    obtain ⟨j, rfl, _⟩ := inR_int h.2.1
    exact ⟨i, j, t, u, rfl⟩
  · cases h
theorem at_tup {ds : List D} {k : Nat} (h : k < ds.length) : fAt (.tup ds) (.int k) = some ds[k] := at_lst h
theorem leA_pair {a b a' b' : Int} : fLeA (.tup [.int a, .int b]) (.tup [.int a', .int b']) = some (.bl (lexLe [a, b] [a', b'])) := rfl
/-- one turn of Web's loop -/
theorem turnW {n : Int} {all : List D} {k : Nat} {d : D} {q : Option D} {x0 x3 x4 : Sl} {r : En} (hd : Gds d) (hq : match q with
    | some q => 0 < k ∧ (∃ h : k - 1 < all.length, all[k - 1] = q) ∧ tieR n q = true
    | none => k = 0) :
    (mIf (mOr (mNot (tPu (pCall 2 M_is_tie (psCons (pVar 1) (psCons (pVar 6) (psNil)))))) (mAnd (tPu (pOp2 fGt (pVar 5) (pC (.int 0)))) (tPu (pOp2 fLeA (pSl fSl (pVar 6) (pNoPart) (pPart (pC (.int 2)))) (pSl fSl (pOp2 fAt (pVar 2) (pOp2 fSub (pVar 5) (pC (.int 1)))) (pNoPart) (pPart (pC (.int 2)))))))) (mRaise1 "BadWeb" "part" (mP (pVar 5))) (mNext)) (x0 :: .d (.int n) :: .d (.tup all) :: x3 :: x4 :: .d (.int k) :: .d d :: r) =
      if (tieR n d && above q d) = true then .nx (x0 :: .d (.int n) :: .d (.tup all) :: x3 :: x4 :: .d (.int k) :: .d d :: r) else .ex "BadWeb" [("part", .int k)] (x0 :: .d (.int n) :: .d (.tup all) :: x3 :: x4 :: .d (.int k) :: .d d :: r) := by
  have e1 := istie (n := n) hd
  cases ht : tieR n d with
  | false => simp [e1, ht]
  | true =>
    cases q with
    | none =>
      have hk : k = 0 := hq
      subst hk
      simp [e1, ht, above]
    | some q =>
      obtain ⟨h0, ⟨h1, h2⟩, h3⟩ := hq
      obtain ⟨a, b, t, u, rfl⟩ := tieR_form ht
      obtain ⟨a', b', t', u', rfl⟩ := tieR_form h3
      have hk : (0 : Int) < k := by omega
      have ea : fAt (.tup all) (.int ((k : Int) - 1)) = some (.tup [.int a', .int b', t', u']) := by
        rw [show ((k : Int) - 1) = ((k - 1 : Nat) : Int) by omega, at_tup h1, h2]
      cases hle : lexLe [a, b] [a', b'] <;> simp [e1, ht, hk, h0, ea, cut2, leA_pair, above, le2, hle]
theorem loopW {n : Int} {all : List D} (hall : ∀ x ∈ all, Gds x) {x0 x3 x4 : Sl} {r : En} : ∀ (ds : List D) (k : Nat) (q : Option D), all.drop k = ds → (match q with
    | some q => 0 < k ∧ (∃ h : k - 1 < all.length, all[k - 1] = q) ∧ tieR n q = true
    | none => k = 0) → ∀ (x5 x6 : Sl), ∃ x5' x6' : Sl, forL (gUn (gOne (gSet 5) (gOne (gSet 6) (gNone)))) (mIf (mOr (mNot (tPu (pCall 2 M_is_tie (psCons (pVar 1) (psCons (pVar 6) (psNil)))))) (mAnd (tPu (pOp2 fGt (pVar 5) (pC (.int 0)))) (tPu (pOp2 fLeA (pSl fSl (pVar 6) (pNoPart) (pPart (pC (.int 2)))) (pSl fSl (pOp2 fAt (pVar 2) (pOp2 fSub (pVar 5) (pC (.int 1)))) (pNoPart) (pPart (pC (.int 2)))))))) (mRaise1 "BadWeb" "part" (mP (pVar 5))) (mNext)) (enumD k ds) (x0 :: .d (.int n) :: .d (.tup all) :: x3 :: x4 :: x5 :: x6 :: r) =
      match badT n k q ds with
      | some j => .ex "BadWeb" [("part", .int j)] (x0 :: .d (.int n) :: .d (.tup all) :: x3 :: x4 :: x5' :: x6' :: r)
      | none => .nx (x0 :: .d (.int n) :: .d (.tup all) :: x3 :: x4 :: x5' :: x6' :: r)
  | [], k, q, _, _, x5, x6 => ⟨x5, x6, rfl⟩
  | d :: ds, k, q, hd, hq, x5, x6 => by
    have hk : k < all.length := by
      rcases Nat.lt_or_ge k all.length with h | h
      · exact h
      · rw [List.drop_eq_nil_of_le h] at hd; cases hd
    rw [List.drop_eq_getElem_cons hk] at hd
    obtain ⟨e1, e2⟩ := List.cons.inj hd
    have gd : Gds d := hall d (e1 ▸ List.getElem_mem hk)
    have tw := turnW (n := n) (all := all) (k := k) (d := d) (q := q) (x0 := x0) (x3 := x3) (x4 := x4) (r := r) gd hq
    unfold enumD forL
    simp only [ev_gUn, ev_gOne, ev_gSet, ev_then, ev_gNone, List.set_cons_succ, List.set_cons_zero]
    rw [tw]
    unfold badT
    by_cases hg : (tieR n d && above q d) = true
    · rw [if_pos hg, if_pos hg]
      have ht : tieR n d = true := (Bool.and_eq_true_iff.mp hg).1
      exact loopW hall ds (k + 1) (some d) e2 ⟨by omega, ⟨by omega, by simpa using e1⟩, ht⟩ _ _
    · rw [if_neg hg, if_neg hg]
      exact ⟨_, _, rfl⟩
theorem rg_len {ts : List D} {s : En} (h : ts.length < 1000) : rgR1 (some [.int ts.length]) s = .ok ((List.range ts.length).map fun (i : Nat) => D.int i) s := by
  have h62 : (ts.length : Int) < 2 ^ 62 := Int.lt_trans (show (ts.length : Int) < 1000 by omega) (by decide)
  rw [rgR1_ok (Int.natCast_nonneg _) h62]
  unfold rangeD
  simp
/-- what is wrong with four parts -/
def badP (a b c d : D) : Option D :=
  if inR a 2 10 = false then some (.str "many") else match a, b with
  | .int n, .tup ts => match badT n 0 none ts with
    | some j => some (.int j)
    | none => if inR c 0 (n - 1) = false then some (.str "spring") else if inR d 0 (n - 1) = false || (match c, d with | .int i, .int j => decide (i = j) | _, _ => false) then some (.str "mouth") else none
  | _, _ => some (.int (-1))
theorem badP_tup {n : Int} {ts : List D} {c d : D} (h : inR (.int n) 2 10 = true) : badP (.int n) (.tup ts) c d = match badT n 0 none ts with
    | some j => some (.int j)
    | none => if inR c 0 (n - 1) = false then some (.str "spring") else if inR d 0 (n - 1) = false || (match c, d with | .int i, .int j => decide (i = j) | _, _ => false) then some (.str "mouth") else none := by
  unfold badP
  (rw [if_neg (by rw [h]; decide)]) <;> rfl
theorem badP_notT {n : Int} {b c d : D} (h : inR (.int n) 2 10 = true) (hb : isT b = false) : badP (.int n) b c d = some (.int (-1)) := by
  unfold badP
  rw [if_neg (by rw [h]; decide)]
  cases b with
  | tup ts => cases hb
  | _ => rfl
def bes1 (L : List Tie) (h : Int) : List Int := L.filterMap fun x => if x.a = h then some x.b else none
def bes2 (L : List Tie) (h : Int) : List Int := L.filterMap fun x => if x.b = h then some x.a else none
def bes (L : List Tie) (h : Int) : List Int := bes1 L h ++ bes2 L h
def fb1 (h : Int) : D → Option D
  | .tup [.int a, y, _, _] => if a = h then some y else none
  | _ => none
def fb2 (h : Int) : D → Option D
  | .tup [y, .int b, _, _] => if b = h then some y else none
  | _ => none
theorem fb1_eq (L : List Tie) (h : Int) : (L.map Tie.d).filterMap (fb1 h) = (bes1 L h).map D.int := by
  unfold bes1
  rw [List.filterMap_map, List.map_filterMap]
  congr 1
  funext x
  show (if x.a = h then some (D.int x.b) else none) = Option.map D.int (if x.a = h then some x.b else none)
  split <;> rfl
theorem fb2_eq (L : List Tie) (h : Int) : (L.map Tie.d).filterMap (fb2 h) = (bes2 L h).map D.int := by
  unfold bes2
  rw [List.filterMap_map, List.map_filterMap]
  congr 1
  funext x
  show (if x.b = h then some (D.int x.a) else none) = Option.map D.int (if x.b = h then some x.a else none)
  split <;> rfl
theorem bes1_len (L : List Tie) (h : Int) : (bes1 L h).length ≤ L.length := List.length_filterMap_le ..
theorem bes2_len (L : List Tie) (h : Int) : (bes2 L h).length ≤ L.length := List.length_filterMap_le ..
theorem lcB1 {s : En} {L : List Tie} {h : Int} {t : MT} {e : ME} {v : Nat} {it : En → Res (List D)} (hi : it s = .ok (L.map Tie.d) s) (hv : s[v]? = some .no) (hl : L.length < 500)
    (ht : ∀ x : Tie, t (s.set v (.d x.d)) = .ok (decide (x.a = h)) (s.set v (.d x.d))) (he : ∀ x : Tie, e (s.set v (.d x.d)) = .ok (.int x.b) (s.set v (.d x.d))) : mLc [v] it (gSet v) t e s = .ok (.lst ((bes1 L h).map D.int)) s := by
  rw [mLc_one (ds := L.map Tie.d) (fb1 h) hi hv (by simp; omega) ?_, fb1_eq]
  intro d hd
  obtain ⟨x, _, rfl⟩ := List.mem_map.mp hd
  refine ⟨_, ht x, ?_⟩
  by_cases hx : x.a = h
  · simp only [hx, decide_true]
    exact ⟨_, he x, by show (if x.a = h then _ else _) = _; rw [if_pos hx]⟩
  · simp only [hx, decide_false]
    show (if x.a = h then _ else _) = _
    rw [if_neg hx]
theorem lcB2 {s : En} {L : List Tie} {h : Int} {t : MT} {e : ME} {v : Nat} {it : En → Res (List D)} (hi : it s = .ok (L.map Tie.d) s) (hv : s[v]? = some .no) (hl : L.length < 500)
    (ht : ∀ x : Tie, t (s.set v (.d x.d)) = .ok (decide (x.b = h)) (s.set v (.d x.d))) (he : ∀ x : Tie, e (s.set v (.d x.d)) = .ok (.int x.a) (s.set v (.d x.d))) : mLc [v] it (gSet v) t e s = .ok (.lst ((bes2 L h).map D.int)) s := by
  rw [mLc_one (ds := L.map Tie.d) (fb2 h) hi hv (by simp; omega) ?_, fb2_eq]
  intro d hd
  obtain ⟨x, _, rfl⟩ := List.mem_map.mp hd
  refine ⟨_, ht x, ?_⟩
  by_cases hx : x.b = h
  · simp only [hx, decide_true]
    exact ⟨_, he x, by show (if x.b = h then _ else _) = _; rw [if_pos hx]⟩
  · simp only [hx, decide_false]
    show (if x.b = h then _ else _) = _
    rw [if_neg hx]
theorem tie0 {x : Tie} : fAt x.d (.int 0) = some (.int x.a) := rfl
theorem tie1 {x : Tie} : fAt x.d (.int 1) = some (.int x.b) := rfl
theorem tie2 {x : Tie} : fAt x.d (.int 2) = some (.int x.t) := rfl
theorem tie3 {x : Tie} : fAt x.d (.int 3) = some (.int x.u) := rfl
theorem beside_ok {L : List Tie} {h : Int} (hl : L.length < 500) : outV (M_beside [.tup (L.map Tie.d), .int h]) = .ok (.lst ((bes L h).map D.int)) := by
  refine fnB_rt ⟨[.d (.tup (L.map Tie.d)), .d (.int h), .no], ?_⟩
  show B_beside [.d (.tup (L.map Tie.d)), .d (.int h), .no] = _
  unfold B_beside
  have := bes1_len L h
  have := bes2_len L h
  rw [ev_ret, ev_mOp2, ev_eO, ev_mFrz, lcB1 (L := L) (h := h) (by simp) rfl hl (by intro x; simp [tie0]) (by intro x; simp [tie1])]
  simp only [ev_rbind, ev_eO, ev_mFrz]
  rw [lcB2 (L := L) (h := h) (by simp) rfl hl (by intro x; simp [tie1]) (by intro x; simp [tie0])]
  simp [v_addL (show ((bes1 L h).map D.int).length + ((bes2 L h).map D.int).length ≤ 1000 by simp; omega), bes]
/-- a right plan, as the package judges -/
structure POk (p : Plan) : Prop where
  n2 : 2 ≤ p.n
  n10 : p.n ≤ 10
  t : ∀ x ∈ p.L, x.ok p.n
  up : (p.L.map Tie.code).Pairwise (· < ·)
  len : p.L.length < 300
  s0 : 0 ≤ p.s
  s1 : p.s < p.n
  m0 : 0 ≤ p.m
  m1 : p.m < p.n
  ne : p.m ≠ p.s
theorem Plan.Ok.p {p : Plan} (h : p.Ok) : POk p := ⟨h.n2, h.n10, h.t, h.up, by have := h.len; omega, h.s0, h.s1, h.m0, h.m1, h.ne⟩
theorem lex_code {a b c d : Int} (ha : 0 ≤ a) (hb : 0 ≤ b) (hb1 : b < 64) (hc : 0 ≤ c) (hd : 0 ≤ d) (hd1 : d < 64) : lexLe [a, b] [c, d] = decide (codeP a b ≤ codeP c d) := by
  show (if decide (a = c) = true then (if decide (b = d) = true then decide (2 ≤ 2) else decide (b ≤ d)) else decide (a ≤ c)) = _
  unfold codeP
  by_cases h1 : a = c
  · subst h1
    by_cases h2 : b = d
    · subst h2; simp
    · simp [h2]; omega
  · simp [h1]; omega
theorem tieR_ok {n : Int} {d : D} (h : tieR n d = true) : ∃ x : Tie, d = x.d ∧ x.ok n := by
  unfold tieR at h
  split at h
  · rename_i a b t u
    simp only [Bool.and_eq_true] at h
    obtain ⟨h1, h2, h3, h4, h5⟩ := h
    obtain ⟨i, rfl, _⟩ := inR_int h1
    obtain ⟨j, rfl, _⟩ := inR_int h2
    obtain ⟨k, rfl, _⟩ := inR_int h4
    obtain ⟨l, rfl, _⟩ := inR_int h5
    have h3 : i < j := by simpa [ltI] using h3
    exact ⟨⟨i, j, k, l⟩, rfl, by unfold Tie.ok; dsimp only; omega⟩
  · cases h
theorem ok_tieR {n : Int} {x : Tie} (h : x.ok n) : tieR n x.d = true := by
  obtain ⟨h1, h2, h3, h4, h5, h6, h7⟩ := h
  show (inR (.int x.a) 0 (n - 1) && (inR (.int x.b) 0 (n - 1) && (ltI (.int x.a) (.int x.b) && (inR (.int x.t) 0 999999 && inR (.int x.u) 0 999999)))) = true
  simp [inR, ltI]
  omega
theorem above_ok {n : Int} (hn : n ≤ 10) {x y : Tie} (hx : x.ok n) (hy : y.ok n) : above (some y.d) x.d = decide (y.code < x.code) := by
  obtain ⟨h1, h2, h3, _⟩ := hx
  obtain ⟨g1, g2, g3, _⟩ := hy
  show (!lexLe [x.a, x.b] [y.a, y.b]) = _
  rw [lex_code h1 (by omega) (by omega) g1 (by omega) (by omega)]
  unfold Tie.code
  rw [Bool.eq_iff_iff]; simp
theorem badT_none {n : Int} (hn : n ≤ 10) : ∀ (ds : List D) (k : Nat) (q : Option Tie), (∀ y, q = some y → y.ok n) → badT n k (q.map Tie.d) ds = none → ∃ L : List Tie, ds = L.map Tie.d ∧ (∀ x ∈ L, x.ok n) ∧ (L.map Tie.code).Pairwise (· < ·) ∧ ∀ y, q = some y → ∀ x ∈ L, y.code < x.code
  | [], _, _, _, _ => ⟨[], rfl, by simp, by simp, by simp⟩
  | d :: ds, k, q, hq, h => by
    unfold badT at h
    split at h
    · rename_i hg
      obtain ⟨g1, g2⟩ := Bool.and_eq_true_iff.mp hg
      obtain ⟨x, rfl, hx⟩ := tieR_ok g1
      obtain ⟨L, e1, e2, e3, e4⟩ := badT_none hn ds (k + 1) (some x) (fun y e => by cases e; exact hx) h
      refine ⟨x :: L, by rw [e1]; rfl, ?_, ?_, ?_⟩
      · intro y hy
        rcases List.mem_cons.mp hy with rfl | hy
        · exact hx
        · exact e2 y hy
      · rw [List.map_cons, List.pairwise_cons]
        refine ⟨fun c hc => ?_, e3⟩
        obtain ⟨y, hy, rfl⟩ := List.mem_map.mp hc
        exact e4 x rfl y hy
      · intro y hy z hz
        subst hy
        have q1 : y.code < x.code := by
          have := above_ok hn hx (hq y rfl)
          rw [show (Option.map Tie.d (some y)) = some y.d from rfl] at g2
          rw [this] at g2
          exact of_decide_eq_true g2
        rcases List.mem_cons.mp hz with rfl | hz
        · exact q1
        · exact Nat.lt_trans q1 (e4 x rfl z hz)
    · cases h
theorem badT_ok {n : Int} (hn : n ≤ 10) : ∀ (L : List Tie) (k : Nat) (q : Option Tie), (∀ y, q = some y → y.ok n) → (∀ x ∈ L, x.ok n) → (L.map Tie.code).Pairwise (· < ·) → (∀ y, q = some y → ∀ x ∈ L, y.code < x.code) → badT n k (q.map Tie.d) (L.map Tie.d) = none
  | [], _, _, _, _, _, _ => rfl
  | x :: L, k, q, hq, hL, hp, hqL => by
    rw [List.map_cons]
    unfold badT
    have hx := hL x (List.mem_cons_self ..)
    have g2 : above (q.map Tie.d) x.d = true := by
      cases q with
      | none => rfl
      | some y =>
        rw [show (Option.map Tie.d (some y)) = some y.d from rfl, above_ok hn hx (hq y rfl)]
        exact decide_eq_true (hqL y rfl x (List.mem_cons_self ..))
    rw [if_pos (by rw [ok_tieR hx, g2]; rfl)]
    rw [List.map_cons, List.pairwise_cons] at hp
    exact badT_ok hn L (k + 1) (some x) (fun y e => by cases e; exact hx) (fun y hy => hL y (List.mem_cons_of_mem _ hy)) hp.2 (fun y e z hz => by cases e; exact hp.1 _ (List.mem_map_of_mem hz))
theorem badP_none {a b c d : D} (hbl : ∀ ts, b = .tup ts → ts.length < 300) (h : badP a b c d = none) : ∃ p : Plan, POk p ∧ a = .int p.n ∧ b = .tup (p.L.map Tie.d) ∧ c = .int p.s ∧ d = .int p.m := by
  cases h1 : inR a 2 10 with
  | false => unfold badP at h; rw [if_pos h1] at h; cases h
  | true =>
    obtain ⟨n, rfl, n2, n10⟩ := inR_int h1
    by_cases hT : isT b = true
    · cases b with
      | tup ts =>
        rw [badP_tup h1] at h
        cases hB : badT n 0 none ts with
        | some j => rw [hB] at h; cases h
        | none =>
          rw [hB] at h
          dsimp only at h
          cases h3 : inR c 0 (n - 1) with
          | false => rw [if_pos h3] at h; cases h
          | true =>
            rw [if_neg (by rw [h3]; decide)] at h
            cases h4 : inR d 0 (n - 1) with
            | false => rw [if_pos (by rw [h4]; rfl)] at h; cases h
            | true =>
              obtain ⟨i, rfl, _⟩ := inR_int h3
              obtain ⟨j, rfl, _⟩ := inR_int h4
              obtain ⟨L, e1, e2, e3, _⟩ := badT_none n10 ts 0 none (fun y e => by cases e) hB
              by_cases hij : i = j
              · rw [if_pos (by rw [h4]; simp [hij])] at h; cases h
              · refine ⟨⟨n, L, i, j⟩, ⟨n2, n10, e2, e3, ?_, by show 0 ≤ i; omega, by show i < n; omega, by show 0 ≤ j; omega, by show j < n; omega, fun e => hij e.symm⟩, rfl, by rw [e1], rfl, rfl⟩
                have := hbl ts rfl
                rw [e1, List.length_map] at this
                exact this
      | _ => cases hT
    · rw [Bool.not_eq_true] at hT
      rw [badP_notT h1 hT] at h; cases h
theorem badP_ok {p : Plan} (h : POk p) : badP (.int p.n) (.tup (p.L.map Tie.d)) (.int p.s) (.int p.m) = none := by
  have h1 : inR (.int p.n) 2 10 = true := by have := h.n2; have := h.n10; simp [inR]; omega
  rw [badP_tup h1, show badT p.n 0 none (p.L.map Tie.d) = none from badT_ok h.n10 p.L 0 none (fun y e => by cases e) h.t h.up (fun y e => by cases e)]
  dsimp only
  have := h.s0; have := h.s1; have := h.m0; have := h.m1
  have h3 : inR (.int p.s) 0 (p.n - 1) = true := by simp [inR]; omega
  have h4 : inR (.int p.m) 0 (p.n - 1) = true := by simp [inR]; omega
  rw [if_neg (by rw [h3]; decide), if_neg (by rw [h4]; have := h.ne; simp; omega)]
def nearL (p : Plan) : List D := (List.range p.n.toNat).map fun (h : Nat) => .tup ((srt (bes p.L h)).map D.int)
def kk (a b : Int) : List Key := [.inl a, .inl b]
def pr (a b : Int) : D := .tup [.int a, .int b]
def roomK : List Tie → List (D × D) → List (D × D)
  | [], kvs => kvs
  | x :: L, kvs => roomK L (putTD (putTD kvs (kk x.a x.b) (pr x.a x.b) (.int x.t)) (kk x.b x.a) (pr x.b x.a) (.int x.u))
theorem keyT_pr {a b : Int} : keyT (pr a b) = some (kk a b) := rfl
theorem roomK_other (q : List Key) : ∀ (L : List Tie) (kvs : List (D × D)), (∀ x ∈ L, kk x.a x.b ≠ q ∧ kk x.b x.a ≠ q) → lookT (roomK L kvs) q = lookT kvs q
  | [], kvs, _ => rfl
  | x :: L, kvs, h => by
    obtain ⟨h1, h2⟩ := h x (List.mem_cons_self ..)
    rw [roomK, roomK_other q L _ fun y hy => h y (List.mem_cons_of_mem _ hy), lookT_put keyT_pr, if_neg h2, lookT_put keyT_pr, if_neg h1]
theorem kk_inj {a b c d : Int} (h : kk a b = kk c d) : a = c ∧ b = d := by
  unfold kk at h
  injection h with h1 h2
  injection h2 with h2 _
  injection h1 with h1
  injection h2 with h2
  exact ⟨h1, h2⟩
theorem code_inj {n : Int} (hn : n ≤ 10) {x y : Tie} (hx : x.ok n) (hy : y.ok n) (ha : x.a = y.a) (hb : x.b = y.b) : x.code = y.code := by
  unfold Tie.code; rw [ha, hb]
theorem roomK_get {n : Int} (hn : n ≤ 10) : ∀ (L : List Tie) (kvs : List (D × D)), (∀ x ∈ L, x.ok n) → (L.map Tie.code).Pairwise (· < ·) → ∀ x ∈ L, lookT (roomK L kvs) (kk x.a x.b) = some (.int x.t) ∧ lookT (roomK L kvs) (kk x.b x.a) = some (.int x.u)
  | [], _, _, _, x, hx => by cases hx
  | y :: L, kvs, hL, hp, x, hx => by
    rw [List.map_cons, List.pairwise_cons] at hp
    rcases List.mem_cons.mp hx with rfl | hx
    · have hox := hL x (List.mem_cons_self ..)
      have key : ∀ z ∈ L, (kk z.a z.b ≠ kk x.a x.b ∧ kk z.b z.a ≠ kk x.a x.b) ∧ (kk z.a z.b ≠ kk x.b x.a ∧ kk z.b z.a ≠ kk x.b x.a) := fun z hz => by
        have hoz := hL z (List.mem_cons_of_mem _ hz)
        have hlt := hp.1 _ (List.mem_map_of_mem (f := Tie.code) hz)
        have ne : ∀ {a b c d : Int}, ¬ (a = c ∧ b = d) → kk a b ≠ kk c d := fun h e => h (kk_inj e)
        obtain ⟨g1, g2, g3, _⟩ := hox
        obtain ⟨k1, k2, k3, _⟩ := hoz
        have nn : ¬ (z.a = x.a ∧ z.b = x.b) := fun e => by
          unfold Tie.code at hlt; rw [e.1, e.2] at hlt; omega
        refine ⟨⟨ne nn, ne ?_⟩, ⟨ne ?_, ne ?_⟩⟩ <;> omega
      constructor
      · rw [roomK, roomK_other _ L _ fun z hz => (key z hz).1, lookT_put keyT_pr, if_neg ?_, lookT_put keyT_pr, if_pos rfl]
        intro e
        have := kk_inj e
        have := hox.2.1
        omega
      · rw [roomK, roomK_other _ L _ fun z hz => (key z hz).2, lookT_put keyT_pr, if_pos rfl]
    · exact roomK_get hn L _ (fun z hz => hL z (List.mem_cons_of_mem _ hz)) hp.2 x hx
theorem roomK_len : ∀ (L : List Tie) (kvs : List (D × D)), (roomK L kvs).length ≤ kvs.length + 2 * L.length
  | [], kvs => by simp [roomK]
  | x :: L, kvs => by
    have h1 := roomK_len L (putTD (putTD kvs (kk x.a x.b) (pr x.a x.b) (.int x.t)) (kk x.b x.a) (pr x.b x.a) (.int x.u))
    have h2 := @putTD_length (putTD kvs (kk x.a x.b) (pr x.a x.b) (.int x.t)) (kk x.b x.a) (pr x.b x.a) (.int x.u)
    have h3 := @putTD_length kvs (kk x.a x.b) (pr x.a x.b) (.int x.t)
    rw [roomK, List.length_cons]
    omega
/-- the object as it is made: its room is its own -/
def webO (p : Plan) (kvs : List (D × D)) : D := .ins "Web" [("many", .int p.n), ("ties", .tup (p.L.map Tie.d)), ("spring", .int p.s), ("mouth", .int p.m), ("near", .lst (nearL p)), ("room", .box (.dtt kvs))]
def webD (p : Plan) : D := .ins "Web" [("many", .int p.n), ("ties", .tup (p.L.map Tie.d)), ("spring", .int p.s), ("mouth", .int p.m), ("near", .lst (nearL p)), ("room", .dtt (roomK p.L []))]
theorem frz_webO {p : Plan} {kvs : List (D × D)} : frzB (webO p kvs) = .ins "Web" [("many", .int p.n), ("ties", .tup (p.L.map Tie.d)), ("spring", .int p.s), ("mouth", .int p.m), ("near", .lst (nearL p)), ("room", .dtt kvs)] := rfl
theorem sub_room {p : Plan} {kvs : List (D × D)} : subD tabF0 (webO p kvs) ["room"] = some (.dtt kvs) := by rfl
theorem put_room {p : Plan} {kvs kvs' : List (D × D)} : putD (webO p kvs) ["room"] (.dtt kvs') = webO p kvs' := by rfl
theorem st_room {kvs : List (D × D)} {a b : Int} {d : D} (h : kvs.length < 1000) : stI (.dtt kvs) (pr a b) d = some (.dtt (putTD kvs (kk a b) (pr a b) d)) := by
  show (match keyT (pr a b) with | some q => if kvs.length < sizeLine then some (D.dtt (putTD kvs q (pr a b) d)) else none | none => none) = _
  rw [keyT_pr]
  exact if_pos (Nat.lt_of_lt_of_le h (by rw [sizeLine_eq]; decide))
/-- one turn of the room's loop -/
theorem room1 {p : Plan} {kvs : List (D × D)} (h : kvs.length < 900) {a b t u : Int} {x1 x2 x3 x4 x5 x6 x7 : Sl} : (mSeq (mSetI tabF0 0 ["room"] (pTup (psCons (pVar 8) (psCons (pVar 9) (psNil)))) (mP (pVar 10)))
    (mSetI tabF0 0 ["room"] (pTup (psCons (pVar 9) (psCons (pVar 8) (psNil)))) (mP (pVar 11)))) [.b (webO p kvs), x1, x2, x3, x4, x5, x6, x7, .d (.int a), .d (.int b), .d (.int t), .d (.int u)] =
      .nx [.b (webO p (putTD (putTD kvs (kk a b) (pr a b) (.int t)) (kk b a) (pr b a) (.int u))), x1, x2, x3, x4, x5, x6, x7, .d (.int a), .d (.int b), .d (.int t), .d (.int u)] := by
  have hl := @putTD_length kvs (kk a b) (pr a b) (.int t)
  refine sq (s1 := [.b (webO p (putTD kvs (kk a b) (pr a b) (.int t))), x1, x2, x3, x4, x5, x6, x7, .d (.int a), .d (.int b), .d (.int t), .d (.int u)]) ?_ ?_
  · exact setIp_ok (d0 := webO p kvs) (c := .dtt kvs) (k := pr a b) (c' := .dtt (putTD kvs (kk a b) (pr a b) (.int t))) (d1 := webO p (putTD kvs (kk a b) (pr a b) (.int t))) (d := .int t) (s1 := [.b (webO p kvs), x1, x2, x3, x4, x5, x6, x7, .d (.int a), .d (.int b), .d (.int t), .d (.int u)]) (by simp) rfl sub_room (by simp [szTup_ok, pr]) (st_room (by omega)) put_room
  · exact setIp_ok (d0 := webO p (putTD kvs (kk a b) (pr a b) (.int t))) (c := .dtt (putTD kvs (kk a b) (pr a b) (.int t))) (k := pr b a) (c' := .dtt (putTD (putTD kvs (kk a b) (pr a b) (.int t)) (kk b a) (pr b a) (.int u))) (d1 := webO p (putTD (putTD kvs (kk a b) (pr a b) (.int t)) (kk b a) (pr b a) (.int u))) (d := .int u) (s1 := [.b (webO p (putTD kvs (kk a b) (pr a b) (.int t))), x1, x2, x3, x4, x5, x6, x7, .d (.int a), .d (.int b), .d (.int t), .d (.int u)]) (by simp) rfl sub_room (by simp [szTup_ok, pr]) (st_room (by omega)) put_room
theorem roomLoop {p : Plan} {x1 x2 x3 x4 x5 x6 x7 : Sl} : ∀ (L : List Tie) (kvs : List (D × D)) (x8 x9 x10 x11 : Sl), kvs.length + 2 * L.length < 800 → ∃ x8' x9' x10' x11' : Sl, forL (gUn (gOne (gSet 8) (gOne (gSet 9) (gOne (gSet 10) (gOne (gSet 11) (gNone)))))) (mSeq (mSetI tabF0 0 ["room"] (pTup (psCons (pVar 8) (psCons (pVar 9) (psNil)))) (mP (pVar 10)))
    (mSetI tabF0 0 ["room"] (pTup (psCons (pVar 9) (psCons (pVar 8) (psNil)))) (mP (pVar 11)))) (L.map Tie.d) [.b (webO p kvs), x1, x2, x3, x4, x5, x6, x7, x8, x9, x10, x11] = .nx [.b (webO p (roomK L kvs)), x1, x2, x3, x4, x5, x6, x7, x8', x9', x10', x11']
  | [], kvs, x8, x9, x10, x11, _ => ⟨x8, x9, x10, x11, rfl⟩
  | x :: L, kvs, x8, x9, x10, x11, hl => by
    have h2 := @putTD_length (putTD kvs (kk x.a x.b) (pr x.a x.b) (.int x.t)) (kk x.b x.a) (pr x.b x.a) (.int x.u)
    have h3 := @putTD_length kvs (kk x.a x.b) (pr x.a x.b) (.int x.t)
    rw [List.length_cons] at hl
    obtain ⟨y8, y9, y10, y11, e⟩ := roomLoop L (putTD (putTD kvs (kk x.a x.b) (pr x.a x.b) (.int x.t)) (kk x.b x.a) (pr x.b x.a) (.int x.u)) (.d (.int x.a)) (.d (.int x.b)) (.d (.int x.t)) (.d (.int x.u)) (by omega)
    refine ⟨y8, y9, y10, y11, ?_⟩
    rw [List.map_cons]
    exact forL_cons (s1 := [.b (webO p kvs), x1, x2, x3, x4, x5, x6, x7, .d (.int x.a), .d (.int x.b), .d (.int x.t), .d (.int x.u)]) (by simp [Tie.d]) (room1 (by omega)) e
theorem mem_range_int {n : Int} (h0 : 0 ≤ n) (h : n ≤ 10) : rangeD 0 n = (List.range n.toNat).map fun (i : Nat) => D.int i := by
  unfold rangeD
  simp
def fNear (L : List Tie) : D → Option D
  | .int h => some (.tup ((srt (bes L h)).map D.int))
  | _ => none
theorem near_eq {p : Plan} (hp : POk p) : (rangeD 0 p.n).filterMap (fNear p.L) = nearL p := by
  rw [mem_range_int (by have := hp.n2; omega) hp.n10, List.filterMap_map]
  unfold nearL
  rw [← List.filterMap_eq_map]
  rfl
/-- Web(..) of four parts -/
theorem init_bad {a b c d : D} (ha : Gd a) (hb : Gd b) (hbs : ∀ ts, b = .tup ts → ∀ x ∈ ts, Gds x) (hc : Gd c) (hd : Gd d) {x : D} (h : badP a b c d = some x) : ∃ r, M_Web_init [.ins "Web" [], a, b, c, d] = .ex "BadWeb" [("part", x)] r := by
  suffices hh : ∃ s, B_Web_init [.b (.ins "Web" []), .d a, .d b, .d c, .d d, .no, .no, .no, .no, .no, .no, .no] = .ex "BadWeb" [("part", x)] s by
    obtain ⟨s, e⟩ := hh
    exact ⟨_, fnB_ex (n := 12) (m := [true]) (ds := [.ins "Web" [], a, b, c, d]) e⟩
  have e1 := isin ha (lo := 2) (hi := 10)
  have e2 := i_tuple hb
  unfold B_Web_init
  cases h1 : inR a 2 10 with
  | false =>
    have e3 : badP a b c d = some (.str "many") := by unfold badP; rw [if_pos h1]
    rw [e3] at h; cases h
    exact ⟨[.b (.ins "Web" []), .d a, .d b, .d c, .d d, .no, .no, .no, .no, .no, .no, .no], sq_ex (by simp [e1, h1])⟩
  | true =>
    obtain ⟨n, rfl, n2, n10⟩ := inR_int h1
    rw [h1] at e1
    by_cases hT : isT b = true
    · cases b with
      | tup ts =>
        rw [hT] at e2
        rw [badP_tup h1] at h
        obtain ⟨x5, x6, el⟩ := loopW (n := n) (hbs ts rfl) (x0 := .b (.ins "Web" [])) (x3 := .d c) (x4 := .d d) (r := [.no, .no, .no, .no, .no]) ts 0 none rfl rfl .no .no
        cases hB : badT n 0 none ts with
        | some j =>
          rw [hB] at el h
          cases h
          exact ⟨_, sq (s1 := [.b (.ins "Web" []), .d (.int n), .d (.tup ts), .d c, .d d, .no, .no, .no, .no, .no, .no, .no]) (by simp [e1]) (sq (s1 := [.b (.ins "Web" []), .d (.int n), .d (.tup ts), .d c, .d d, .no, .no, .no, .no, .no, .no, .no]) (by simp [e2]) (sq_ex (for_eq (ds := enumD 0 ts) (by rfl) el)))⟩
        | none =>
          rw [hB] at el h
          dsimp only at h
          have e3 := isbel hc (n := n)
          have e4 := isbel hd (n := n)
          suffices hh : ∃ s o, _ ∧ _ from by
            obtain ⟨s, o, ho, hs⟩ := hh
            exact ⟨s, sq (s1 := [.b (.ins "Web" []), .d (.int n), .d (.tup ts), .d c, .d d, .no, .no, .no, .no, .no, .no, .no]) (by simp [e1]) (sq (s1 := [.b (.ins "Web" []), .d (.int n), .d (.tup ts), .d c, .d d, .no, .no, .no, .no, .no, .no, .no]) (by simp [e2]) (sq (for_eq (ds := enumD 0 ts) (by rfl) el) ((show _ = o from ho).trans hs)))⟩
          cases h3 : inR c 0 (n - 1) with
          | false =>
            rw [if_pos h3] at h; cases h
            exact ⟨[.b (.ins "Web" []), .d (.int n), .d (.tup ts), .d c, .d d, x5, x6, .no, .no, .no, .no, .no], _, sq_ex (c := "BadWeb") (fs := [("part", .str "spring")]) (s1 := [.b (.ins "Web" []), .d (.int n), .d (.tup ts), .d c, .d d, x5, x6, .no, .no, .no, .no, .no]) (by simp [e3, h3]), rfl⟩
          | true =>
            rw [if_neg (by rw [h3]; decide)] at h
            obtain ⟨i, rfl, _⟩ := inR_int h3
            rw [h3] at e3
            cases h4 : inR d 0 (n - 1) with
            | false =>
              rw [if_pos (by rw [h4]; rfl)] at h; cases h
              exact ⟨[.b (.ins "Web" []), .d (.int n), .d (.tup ts), .d (.int i), .d d, x5, x6, .no, .no, .no, .no, .no], _, sq (s1 := [.b (.ins "Web" []), .d (.int n), .d (.tup ts), .d (.int i), .d d, x5, x6, .no, .no, .no, .no, .no]) (by simp [e3]) (sq_ex (c := "BadWeb") (fs := [("part", .str "mouth")]) (s1 := [.b (.ins "Web" []), .d (.int n), .d (.tup ts), .d (.int i), .d d, x5, x6, .no, .no, .no, .no, .no]) (by simp [e4, h4])), rfl⟩
            | true =>
              obtain ⟨j, rfl, _⟩ := inR_int h4
              rw [h4] at e4
              by_cases hij : i = j
              · subst hij
                rw [if_pos (by simp)] at h; cases h
                exact ⟨[.b (.ins "Web" []), .d (.int n), .d (.tup ts), .d (.int i), .d (.int i), x5, x6, .no, .no, .no, .no, .no], _, sq (s1 := [.b (.ins "Web" []), .d (.int n), .d (.tup ts), .d (.int i), .d (.int i), x5, x6, .no, .no, .no, .no, .no]) (by simp [e3]) (sq_ex (c := "BadWeb") (fs := [("part", .str "mouth")]) (s1 := [.b (.ins "Web" []), .d (.int n), .d (.tup ts), .d (.int i), .d (.int i), x5, x6, .no, .no, .no, .no, .no]) (by simp [e4])), rfl⟩
              · rw [if_neg (by rw [h4]; simp [hij])] at h; cases h
      | _ => cases hT
    · rw [Bool.not_eq_true] at hT
      rw [badP_notT h1 hT] at h
      cases h
      rw [hT] at e2
      exact ⟨[.b (.ins "Web" []), .d (.int n), .d b, .d c, .d d, .no, .no, .no, .no, .no, .no, .no], sq (s1 := [.b (.ins "Web" []), .d (.int n), .d b, .d c, .d d, .no, .no, .no, .no, .no, .no, .no]) (by simp [e1]) (sq_ex (by simp [e2]))⟩
theorem gds_tie {x : Tie} : Gds x.d := ⟨trivial, fun ds h y hy => by cases h; simp at hy; rcases hy with rfl | rfl | rfl | rfl <;> trivial⟩
theorem init_ok {p : Plan} (hp : POk p) : ∃ r, M_Web_init [.ins "Web" [], .int p.n, .tup (p.L.map Tie.d), .int p.s, .int p.m] = .rt .non (.b (webO p (roomK p.L [])) :: r) := by
  have n2 := hp.n2; have n10 := hp.n10; have s0 := hp.s0; have s1 := hp.s1; have m0 := hp.m0; have m1 := hp.m1; have ne := hp.ne; have len := hp.len
  have e1 := isin (d := .int p.n) trivial (lo := 2) (hi := 10)
  rw [show inR (.int p.n) 2 10 = true by simp [inR]; omega] at e1
  have e2 := i_tuple (d := .tup (p.L.map Tie.d)) trivial
  have e3 := isbel (d := .int p.s) trivial (n := p.n)
  rw [show inR (.int p.s) 0 (p.n - 1) = true by simp [inR]; omega] at e3
  have e4 := isbel (d := .int p.m) trivial (n := p.n)
  rw [show inR (.int p.m) 0 (p.n - 1) = true by simp [inR]; omega] at e4
  have eb := badT_ok n10 p.L 0 none (fun y e => by cases e) hp.t hp.up (fun y e => by cases e)
  obtain ⟨x5, x6, el⟩ := loopW (n := p.n) (all := p.L.map Tie.d) (fun d hd => by obtain ⟨x, _, rfl⟩ := List.mem_map.mp hd; exact gds_tie) (x0 := .b (.ins "Web" [])) (x3 := .d (.int p.s)) (x4 := .d (.int p.m)) (r := [.no, .no, .no, .no, .no]) (p.L.map Tie.d) 0 none rfl rfl .no .no
  rw [show badT p.n 0 none (p.L.map Tie.d) = none from eb] at el
  dsimp only at el
  obtain ⟨x8, x9, x10, x11, er⟩ := roomLoop (p := p) (x1 := .d (.int p.n)) (x2 := .d (.tup (p.L.map Tie.d))) (x3 := .d (.int p.s)) (x4 := .d (.int p.m)) (x5 := x5) (x6 := x6) (x7 := .no) p.L [] .no .no .no .no (by simp; omega)
  suffices hh : ∃ r, B_Web_init [.b (.ins "Web" []), .d (.int p.n), .d (.tup (p.L.map Tie.d)), .d (.int p.s), .d (.int p.m), .no, .no, .no, .no, .no, .no, .no] = .nx (.b (webO p (roomK p.L [])) :: r) by
    obtain ⟨r, e⟩ := hh
    exact ⟨_, fnB_nx (n := 12) (m := [true]) (ds := [.ins "Web" [], .int p.n, .tup (p.L.map Tie.d), .int p.s, .int p.m]) e⟩
  refine ⟨[.d (.int p.n), .d (.tup (p.L.map Tie.d)), .d (.int p.s), .d (.int p.m), x5, x6, .no, x8, x9, x10, x11], ?_⟩
  unfold B_Web_init
  refine sq (s1 := [.b (.ins "Web" []), .d (.int p.n), .d (.tup (p.L.map Tie.d)), .d (.int p.s), .d (.int p.m), .no, .no, .no, .no, .no, .no, .no]) (by simp [e1]) ?_
  refine sq (s1 := [.b (.ins "Web" []), .d (.int p.n), .d (.tup (p.L.map Tie.d)), .d (.int p.s), .d (.int p.m), .no, .no, .no, .no, .no, .no, .no]) (by simp [e2, isT]) ?_
  refine sq (for_eq (ds := enumD 0 (p.L.map Tie.d)) (by rfl) el) ?_
  refine sq (s1 := [.b (.ins "Web" []), .d (.int p.n), .d (.tup (p.L.map Tie.d)), .d (.int p.s), .d (.int p.m), x5, x6, .no, .no, .no, .no, .no]) (by simp [e3]) ?_
  refine sq (s1 := [.b (.ins "Web" []), .d (.int p.n), .d (.tup (p.L.map Tie.d)), .d (.int p.s), .d (.int p.m), x5, x6, .no, .no, .no, .no, .no]) (by simp [e4, ne]) ?_
  refine sq (setF_ok (d := .int p.n) (s1 := [.b (.ins "Web" []), .d (.int p.n), .d (.tup (p.L.map Tie.d)), .d (.int p.s), .d (.int p.m), x5, x6, .no, .no, .no, .no, .no]) (by simp) rfl (by rfl) (by simp) rfl) ?_
  refine sq (setF_ok (d := .tup (p.L.map Tie.d)) (s1 := [.b (.ins "Web" [("many", .int p.n)]), .d (.int p.n), .d (.tup (p.L.map Tie.d)), .d (.int p.s), .d (.int p.m), x5, x6, .no, .no, .no, .no, .no]) (by rfl) rfl (by rfl) (by simp) rfl) ?_
  refine sq (setF_ok (d := .int p.s) (s1 := [.b (.ins "Web" [("many", .int p.n), ("ties", .tup (p.L.map Tie.d))]), .d (.int p.n), .d (.tup (p.L.map Tie.d)), .d (.int p.s), .d (.int p.m), x5, x6, .no, .no, .no, .no, .no]) (by rfl) rfl (by rfl) (by simp) rfl) ?_
  refine sq (setF_ok (d := .int p.m) (s1 := [.b (.ins "Web" [("many", .int p.n), ("ties", .tup (p.L.map Tie.d)), ("spring", .int p.s)]), .d (.int p.n), .d (.tup (p.L.map Tie.d)), .d (.int p.s), .d (.int p.m), x5, x6, .no, .no, .no, .no, .no]) (by rfl) rfl (by rfl) (by simp) rfl) ?_
  refine sq (setF_ok (d := .lst (nearL p)) (s1 := [.b (.ins "Web" [("many", .int p.n), ("ties", .tup (p.L.map Tie.d)), ("spring", .int p.s), ("mouth", .int p.m)]), .d (.int p.n), .d (.tup (p.L.map Tie.d)), .d (.int p.s), .d (.int p.m), x5, x6, .no, .no, .no, .no, .no]) ?near rfl (by rfl) (by simp) rfl) ?_
  case near =>
    show mFrz _ [.b (.ins "Web" [("many", .int p.n), ("ties", .tup (p.L.map Tie.d)), ("spring", .int p.s), ("mouth", .int p.m)]), .d (.int p.n), .d (.tup (p.L.map Tie.d)), .d (.int p.s), .d (.int p.m), x5, x6, .no, .no, .no, .no, .no] = _
    rw [ev_mFrz, mLc_one (ds := rangeD 0 p.n) (fNear p.L) ?a rfl ?b ?c, near_eq hp]
    · rfl
    case a => simp; exact rgR1_ok (by omega) (Int.lt_of_le_of_lt n10 (by decide))
    case b => rw [rangeD_length]; omega
    case c =>
      intro d hd
      obtain ⟨k, rfl, k0, k1⟩ := mem_rangeD hd
      refine ⟨true, rfl, _, ?_, rfl⟩
      simp [beside_ok (L := p.L) (h := k) (by omega), sortI_map, v_tupleL]
  refine sq (setFB_ok (d := .dtt []) (s1 := [.b (.ins "Web" [("many", .int p.n), ("ties", .tup (p.L.map Tie.d)), ("spring", .int p.s), ("mouth", .int p.m), ("near", .lst (nearL p))]), .d (.int p.n), .d (.tup (p.L.map Tie.d)), .d (.int p.s), .d (.int p.m), x5, x6, .no, .no, .no, .no, .no]) (by rfl) rfl (by rfl) (by simp) rfl) ?_
  exact for_eq (ds := p.L.map Tie.d) (s1 := [.b (webO p []), .d (.int p.n), .d (.tup (p.L.map Tie.d)), .d (.int p.s), .d (.int p.m), x5, x6, .no, .no, .no, .no, .no]) (by rfl) er
/-- a part of a web as the law draws it -/
structure Part (d : D) : Prop where
  g : Gd d
  i : ∀ ts, d = .tup ts → ts.length < 300 ∧ ∀ x ∈ ts, Gds x
theorem Part.gds {d : D} (h : Part d) : Gds d := ⟨h.g, fun ds e x hx => ((h.i ds e).2 x hx).1⟩
theorem fnB_rt' {n : Nat} {m : List Bool} {b : MS} {ds : List D} {r : Pr} (h : ∃ o, b (args m ds ++ List.replicate (n - ds.length) .no) = o ∧ (match o with
    | .rt d _ => Pr.ok d
    | .ex c fs _ => .ex c fs
    | _ => .bad) = r ∧ (∀ s, o ≠ .nx s) ∧ (∀ d s, o ≠ .ro d s)) : outV (fnB n m b ds) = r := by
  obtain ⟨o, e, h1, h2, h3⟩ := h
  unfold fnB
  rw [e]
  cases o with
  | nx s => exact absurd rfl (h2 s)
  | ro d s => exact absurd rfl (h3 d s)
  | _ => exact h1
theorem make_ok {p : Plan} (hp : POk p) {s : En} : mFrz (mMake "Web" 5 M_Web_init (aCons (eO (mP (pC (.int p.n)))) (aCons (eO (mP (pC (.tup (p.L.map Tie.d))))) (aCons (eO (mP (pC (.int p.s)))) (aCons (eO (mP (pC (.int p.m)))) (aNil)))))) s = .ok (webD p) s := by
  obtain ⟨r, e⟩ := init_ok hp
  rw [ev_mFrz]
  unfold mMake
  simp [e]
  rfl
theorem make_of {p : Plan} (hp : POk p) {s : En} {ma : MA} (h : ma s = .ok [.d (.int p.n), .d (.tup (p.L.map Tie.d)), .d (.int p.s), .d (.int p.m)] s) : mFrz (mMake "Web" 5 M_Web_init ma) s = .ok (webD p) s := by
  obtain ⟨r, e⟩ := init_ok hp
  rw [ev_mFrz]
  unfold mMake
  rw [h]
  simp [e]
  rfl
theorem make_bad {a b c d x : D} {r s : En} (hi : M_Web_init [.ins "Web" [], a, b, c, d] = .ex "BadWeb" [("part", x)] r) {ma : MA} (h : ma s = .ok [.d a, .d b, .d c, .d d] s) : mFrz (mMake "Web" 5 M_Web_init ma) s = .ex "BadWeb" [("part", x)] s := by
  rw [ev_mFrz]
  unfold mMake
  rw [h]
  simp [hi]
theorem webof_ok {p : Plan} (hp : POk p) : outV (M_law_web_of [p.d]) = .ok (webD p) := by
  refine fnB_rt ⟨[.d p.d], ?_⟩
  show B_law_web_of [.d p.d] = _
  unfold B_law_web_of
  rw [ev_ret, make_of hp]
  · rfl
  · have f0 : fAt p.d (.int 0) = some (.int p.n) := rfl
    have f1 : fAt p.d (.int 1) = some (.tup (p.L.map Tie.d)) := rfl
    have f2 : fAt p.d (.int 2) = some (.int p.s) := rfl
    have f3 : fAt p.d (.int 3) = some (.int p.m) := rfl
    simp [f0, f1, f2, f3]
theorem webof_bad {a b c d x : D} (ha : Part a) (hb : Part b) (hc : Part c) (hd : Part d) (h : badP a b c d = some x) : outV (M_law_web_of [.tup [a, b, c, d]]) = .ex "BadWeb" [("part", x)] := by
  obtain ⟨r, hi⟩ := init_bad ha.g hb.g (fun ts e => (hb.i ts e).2) hc.g hd.g h
  have : B_law_web_of [.d (.tup [a, b, c, d])] = .ex "BadWeb" [("part", x)] [.d (.tup [a, b, c, d])] := by
    unfold B_law_web_of
    rw [ev_ret, make_bad hi]
    · rfl
    · simp [t0, t1, t2, t3]
  show outV (fnB 1 [] B_law_web_of [.tup [a, b, c, d]]) = _
  rw [fnB_ex (n := 1) (m := []) (ds := [.tup [a, b, c, d]]) this]
  rfl
/-! fields of a web -/
theorem w_many {p : Plan} : fldR tabF0 "many" (webD p) = .ok (.int p.n) := by rfl
theorem w_ties {p : Plan} : fldR tabF0 "ties" (webD p) = .ok (.tup (p.L.map Tie.d)) := by rfl
theorem w_spring {p : Plan} : fldR tabF0 "spring" (webD p) = .ok (.int p.s) := by rfl
theorem w_mouth {p : Plan} : fldR tabF0 "mouth" (webD p) = .ok (.int p.m) := by rfl
theorem w_near {p : Plan} : fldR tabF0 "near" (webD p) = .ok (.lst (nearL p)) := by rfl
theorem w_room {p : Plan} : fldR tabF0 "room" (webD p) = .ok (.dtt (roomK p.L [])) := by rfl
def toldD (p : Plan) : D := .tup [.str "told", .int p.n, .tup (p.L.map Tie.d), .int p.s, .int p.m]
/-! Web == Web -/
theorem pl_tie {x : Tie} : pl 2 x.d = true := by rfl
theorem pl_ties {L : List Tie} : (L.map Tie.d).all (pl 2) = true := by
  rw [List.all_eq_true]
  intro d hd
  obtain ⟨x, _, rfl⟩ := List.mem_map.mp hd
  exact pl_tie
theorem pl_plan {p : Plan} : pl 4 p.d = true := by
  show List.all [D.int p.n, .tup (p.L.map Tie.d), .int p.s, .int p.m] (pl 3) = true
  have : pl 3 (.tup (p.L.map Tie.d)) = true := pl_ties
  simp [this]
  refine ⟨rfl, rfl, rfl⟩
theorem eq_plan {neg : Bool} {p q : Plan} : eqD neg p.d q.d = some (.bl (xor neg (deq p.d q.d))) := eqD_pl pl_plan pl_plan (by decide) (by decide)
theorem isiWeb {d : D} (h : Gd d) : isi_Web d = some (match d with | .ins _ _ => true | _ => false) := by
  cases d with
  | ins c fs => cases (show c = "Web" from h); rfl
  | box d => exact h.elim
  | _ => rfl
theorem webeq {p q : Plan} : M_Web_eq [webD p, webD q] = .rt (.bl (deq p.d q.d)) [] := by
  have e : B_Web_eq [.d (webD p), .d (webD q)] = .rt (.bl (deq p.d q.d)) [.d (webD p), .d (webD q)] := by
    unfold B_Web_eq
    refine sq (s1 := [.d (webD p), .d (webD q)]) (by simp [show isi_Web (webD q) = some true from isiWeb (d := webD q) rfl]) ?_
    have := eq_plan (neg := false) (p := p) (q := q)
    unfold Plan.d at this
    simp [w_many, w_ties, w_spring, w_mouth, szTup_ok, this, Plan.d]
  show fnB 2 [] B_Web_eq [webD p, webD q] = _
  rw [fnB_rtE (n := 2) (m := []) (ds := [webD p, webD q]) e]
  rfl
theorem webne {p q : Plan} : M_Web_eq [webD p, q.d] = .rt (.bl false) [] := by
  have e : B_Web_eq [.d (webD p), .d q.d] = .rt (.bl false) [.d (webD p), .d q.d] := by
    unfold B_Web_eq
    refine sq_rt (by simp [show isi_Web q.d = some false from isiWeb (d := q.d) trivial])
  show fnB 2 [] B_Web_eq [webD p, q.d] = _
  rw [fnB_rtE (n := 2) (m := []) (ds := [webD p, q.d]) e]
  rfl
theorem eqOwn_ww {a b : MP} {s : En} {p q : Plan} (h1 : a s = .ok (webD p)) (h2 : b s = .ok (webD q)) : pEqOwn "Web" M_Web_eq a b s = .ok (.bl (deq p.d q.d)) := by
  unfold pEqOwn
  rw [h1, h2]
  show (if ("Web" : Str) = "Web" ∧ eqTo "Web" (webD q) = true then (match M_Web_eq [webD p, webD q] with | .rt (.bl r) _ => Pr.ok (.bl r) | _ => .bad) else .bad) = _
  rw [if_pos ⟨rfl, by rfl⟩, webeq]
theorem eqOwn_wp {a b : MP} {s : En} {p q : Plan} (h1 : a s = .ok (webD p)) (h2 : b s = .ok q.d) : pEqOwn "Web" M_Web_eq a b s = .ok (.bl false) := by
  unfold pEqOwn
  rw [h1, h2]
  show (if ("Web" : Str) = "Web" ∧ eqTo "Web" q.d = true then (match M_Web_eq [webD p, q.d] with | .rt (.bl r) _ => Pr.ok (.bl r) | _ => .bad) else .bad) = _
  rw [if_pos ⟨rfl, by rfl⟩, webne]
/-! odd things -/
def oddL : List D := [.non, .bl true, .bl false, .str "", .str "push", .str "0", .tup [], .lst [], .dct [], .tup [.int 0], .lst [.int 0, .int 0], .tup [.tup []], .int (-1), .int 11, .int (10 ^ 20 - 1), .tup [.int 0, .int 1], .tup [.str "yes"], .tup [.int 0, .int 1, .int 5, .int 5]]
def web0 : Plan := ⟨2, [], 0, 1⟩
theorem web0_ok : POk web0 := ⟨by decide, by decide, by simp [web0], by simp [web0], by decide, by decide, by decide, by decide, by decide, by decide⟩
def OddD (d : D) : Prop := d ∈ oddL ∨ d = webD web0
theorem pow20 : fPow (.int 10) (.int 20) = some (.int 100000000000000000000) := by rfl
theorem flat_gds {d : D} (h : plF d = true) : Gds d := by
  cases d with
  | non => exact ⟨trivial, fun ds e => by cases e⟩
  | bl b => exact ⟨trivial, fun ds e => by cases e⟩
  | int b => exact ⟨trivial, fun ds e => by cases e⟩
  | str b => exact ⟨trivial, fun ds e => by cases e⟩
  | _ => cases h
theorem gds_tup {ds : List D} (h : ∀ x ∈ ds, Gd x) : Gds (.tup ds) := ⟨trivial, fun es e x hx => by cases e; exact h x hx⟩
theorem part_flat {d : D} (h : plF d = true) : Part d := by
  cases d with
  | non => exact ⟨trivial, fun ds e => by cases e⟩
  | bl b => exact ⟨trivial, fun ds e => by cases e⟩
  | int b => exact ⟨trivial, fun ds e => by cases e⟩
  | str b => exact ⟨trivial, fun ds e => by cases e⟩
  | _ => cases h
theorem part_lst {ds : List D} : Part (.lst ds) := ⟨trivial, fun ts e => by cases e⟩
theorem part_tup {ds : List D} (h : ds.length < 300) (hs : ∀ x ∈ ds, Gds x) : Part (.tup ds) := ⟨trivial, fun ts e => by cases e; exact ⟨h, hs⟩⟩
theorem odd_part {d : D} (h : OddD d) : Part d := by
  rcases h with h | rfl
  · simp only [oddL, List.mem_cons, List.not_mem_nil, or_false] at h
    rcases h with rfl | rfl | rfl | rfl | rfl | rfl | rfl | rfl | rfl | rfl | rfl | rfl | rfl | rfl | rfl | rfl | rfl | rfl
    · exact part_flat (by decide +kernel)
    · exact part_flat (by decide +kernel)
    · exact part_flat (by decide +kernel)
    · exact part_flat (by decide +kernel)
    · exact part_flat (by decide +kernel)
    · exact part_flat (by decide +kernel)
    · exact part_tup (by decide) (by simp)
    · exact part_lst
    · exact ⟨trivial, fun ts e => by cases e⟩
    · exact part_tup (by decide) (by simp; exact flat_gds (by decide +kernel))
    · exact part_lst
    · exact part_tup (by decide) (by simp; exact gds_tup (by simp))
    · exact part_flat (by decide +kernel)
    · exact part_flat (by decide +kernel)
    · exact part_flat (by decide +kernel)
    · exact part_tup (by decide) (by simp; exact ⟨flat_gds rfl, flat_gds rfl⟩)
    · exact part_tup (by decide) (by simp; exact flat_gds (by decide +kernel))
    · exact part_tup (by decide) (by simp; exact ⟨flat_gds rfl, flat_gds rfl, flat_gds rfl⟩)
  · exact ⟨rfl, fun ts e => by cases e⟩
theorem odd_ok {d : D} (h : Hand d) : ∃ x d', M_law_odd [d] = .rt x [.b d'] ∧ Hand d' ∧ OddD x := by
  obtain ⟨r, d1, e1, hd1, r0, r1⟩ := take_ok h (m := 19) (by decide) (by decide)
  suffices hh : ∃ x s', B_law_odd [.b d, .no] = .rt x (.b d1 :: s') ∧ OddD x by
    obtain ⟨x, s', e, hx⟩ := hh
    exact ⟨x, d1, fnB_rtE (n := 2) (m := [true]) (b := B_law_odd) (ds := [d]) e, hd1, hx⟩
  unfold B_law_odd
  suffices hh : ∃ x s', _ ∧ _ by
    obtain ⟨x, s', e, hx⟩ := hh
    exact ⟨x, s', sq (s1 := [.b d1, .d (.int r)]) (by simp [e1]) e, hx⟩
  by_cases h6 : r < 6
  · obtain ⟨k, rfl⟩ : ∃ k : Nat, r = k := ⟨r.toNat, by omega⟩
    have hk : k < 6 := by omega
    refine ⟨[D.non, .bl true, .bl false, .str "", .str "push", .str "0"][k], [.d (.int k)], sq_rt ?_, .inl ?_⟩
    · have ea := at_lst (ds := [D.non, .bl true, .bl false, .str "", .str "push", .str "0"]) (k := k) hk
      simp [h6, szLst_ok, ea]
    · have : ∀ x ∈ [D.non, .bl true, .bl false, .str "", .str "push", .str "0"], x ∈ oddL := by simp [oddL]
      exact this _ (List.getElem_mem _)
  · by_cases h12 : r < 12
    · obtain ⟨k, rfl⟩ : ∃ k : Nat, r = k + 6 := ⟨(r - 6).toNat, by omega⟩
      have hk : k < 6 := by omega
      refine ⟨[D.tup [], .lst [], .dct [], .tup [.int 0], .lst [.int 0, .int 0], .tup [.tup []]][k], [.d (.int (k + 6))], sq (s1 := [.b d1, .d (.int (k + 6))]) (by simp [h6]) (sq_rt ?_), .inl ?_⟩
      · have ea := at_lst (ds := [D.tup [], .lst [], .dct [], .tup [.int 0], .lst [.int 0, .int 0], .tup [.tup []]]) (k := k) hk
        have e0 : ∀ s, pNewK s = .ok (.dct []) := fun _ => rfl
        simp [h12, szLst_ok, szTup_ok, e0, ea]
      · have : ∀ x ∈ [D.tup [], .lst [], .dct [], .tup [.int 0], .lst [.int 0, .int 0], .tup [.tup []]], x ∈ oddL := by simp [oddL]
        exact this _ (List.getElem_mem _)
    · by_cases h18 : r = 18
      · subst h18
        refine ⟨webD web0, [.d (.int 18)], sq (s1 := [.b d1, .d (.int 18)]) (by simp) (sq (s1 := [.b d1, .d (.int 18)]) (by simp) (sq_rt ?_)), .inr rfl⟩
        have := make_of web0_ok (s := [.b d1, .d (.int 18)]) (ma := aCons (eO (mP (pC (.int 2)))) (aCons (eO (mP (pTup (psNil)))) (aCons (eO (mP (pC (.int 0)))) (aCons (eO (mP (pC (.int 1)))) (aNil))))) (by simp [szTup_ok, web0])
        simp [-ev_mFrz, this]
      · obtain ⟨k, rfl⟩ : ∃ k : Nat, r = k + 12 := ⟨(r - 12).toNat, by omega⟩
        have hk : k < 6 := by omega
        have h18' : ¬ ((k : Int) + 12 = 18) := h18
        refine ⟨[D.int (-1), .int 11, .int (10 ^ 20 - 1), .tup [.int 0, .int 1], .tup [.str "yes"], .tup [.int 0, .int 1, .int 5, .int 5]][k], [.d (.int (k + 12))], sq (s1 := [.b d1, .d (.int (k + 12))]) (by simp [h6]) (sq (s1 := [.b d1, .d (.int (k + 12))]) (by simp [h12]) (sq (s1 := [.b d1, .d (.int (k + 12))]) (by simp [h18']) ?_)), .inl ?_⟩
        · have ea := at_lst (ds := [D.int (-1), .int 11, .int (10 ^ 20 - 1), .tup [.int 0, .int 1], .tup [.str "yes"], .tup [.int 0, .int 1, .int 5, .int 5]]) (k := k) hk
          simp at ea
          simp [szLst_ok, szTup_ok, pow20, ea]
        · have : ∀ x ∈ [D.int (-1), .int 11, .int (10 ^ 20 - 1), .tup [.int 0, .int 1], .tup [.str "yes"], .tup [.int 0, .int 1, .int 5, .int 5]], x ∈ oddL := by simp [oddL]
          exact this _ (List.getElem_mem _)
theorem cut_sub {α : Type} {xs : List α} {lo hi : Option Int} {x : α} (h : x ∈ cutL xs lo hi) : x ∈ xs := List.mem_of_mem_drop (List.mem_of_mem_take h)
theorem cut_len {α : Type} {xs : List α} {lo hi : Option Int} : (cutL xs lo hi).length ≤ xs.length := by
  unfold cutL
  rw [List.length_take, List.length_drop]
  omega
theorem v_slT {ds : List D} {lo hi : Option Int} : fSl (.tup ds) lo hi = some (.tup (cutL ds lo hi)) := rfl
theorem v_listT {ds : List D} : fList [.tup ds] = some (.lst ds) := rfl
theorem skipEq {r k : Int} {X : MS} {s : En} (h : s[6]? = some (.d (.int r))) (hk : ¬ r = k) : mIf (tPu (pOp2 (eqD false) (pVar 6) (pC (.int k)))) X mNext s = .nx s := by simp [h, hk]
theorem goEq {k : Int} {X : MS} {s : En} {o : Out} (h : s[6]? = some (.d (.int k))) (hX : X s = o) : mIf (tPu (pOp2 (eqD false) (pVar 6) (pC (.int k)))) X mNext s = o := by simp [h, hX]
theorem part_int {i : Int} : Part (.int i) := part_flat rfl
theorem part_ties {L : List Tie} (h : L.length < 300) : Part (.tup (L.map Tie.d)) := part_tup (by simpa using h) fun x hx => by
  obtain ⟨y, _, rfl⟩ := List.mem_map.mp hx
  exact gds_tie
def R4 (o : Out) : Prop := ∃ a b c e d' s', o = .rt (.tup [a, b, c, e]) (.b d' :: s') ∧ Hand d' ∧ Part a ∧ Part b ∧ Part c ∧ Part e
theorem R_sq {p q : MS} {s s1 : En} (h : p s = .nx s1) (h2 : R4 (q s1)) : R4 (mSeq p q s) := by
  rw [sq h rfl]; exact h2
theorem R_rt {p q : MS} {s s1 : En} {a b c e d' : D} (h : p s = .rt (.tup [a, b, c, e]) (.b d' :: s1)) (h1 : Hand d') (h2 : Part a) (h3 : Part b) (h4 : Part c) (h5 : Part e) : R4 (mSeq p q s) := ⟨a, b, c, e, d', s1, sq_rt h, h1, h2, h3, h4, h5⟩
theorem pf1 {p : Plan} : fAt p.d (.int 1) = some (.tup (p.L.map Tie.d)) := rfl
theorem lnear_ok {p : Plan} (hp : POk p) {h : Int} : outV (M_law_near [p.d, .int h]) = .ok (.lst ((srt (bes p.L h)).map D.int)) := by
  have hl : p.L.length < 500 := by have := hp.len; omega
  have := bes1_len p.L h
  have := bes2_len p.L h
  refine fnB_rt ⟨[.d p.d, .d (.int h), .d (.lst ((bes p.L h).map D.int)), .no], ?_⟩
  show B_law_near [.d p.d, .d (.int h), .no, .no] = _
  unfold B_law_near
  refine sq (s1 := [.d p.d, .d (.int h), .d (.lst ((bes p.L h).map D.int)), .no]) ?_ (by simp [sortI_map])
  rw [ev_asg, ev_mOp2, ev_eO, ev_mFrz, lcB1 (L := p.L) (h := h) (by simp [pf1]) rfl hl (by intro x; simp [tie0]) (by intro x; simp [tie1])]
  simp only [ev_rbind, ev_eO, ev_mFrz]
  rw [lcB2 (L := p.L) (h := h) (by simp [pf1]) rfl hl (by intro x; simp [tie1]) (by intro x; simp [tie0])]
  simp [v_addL (show ((bes1 p.L h).map D.int).length + ((bes2 p.L h).map D.int).length ≤ 1000 by simp; omega), bes]
theorem ltuple_ok {l : List Int} : fTuple [.lst (l.map D.int)] = some (.tup (l.map D.int)) := rfl
/-! the place of a tie -/
def atF (lo hi : Int) : Nat → List Tie → Option Nat
  | _, [] => none
  | k, x :: L => if x.a = lo ∧ x.b = hi then some k else atF lo hi (k + 1) L
theorem eq_pair {neg : Bool} {a b c d : Int} : eqD neg (.tup [.int a, .int b]) (.tup [.int c, .int d]) = some (.bl (xor neg (decide (a = c ∧ b = d)))) := by
  rw [eqD_pl (n := 1) (m := 1) rfl rfl (by decide) (by decide), deq_tup (n := 0) (m := 0) rfl rfl]
  simp [deqs]
theorem tie_cut {x : Tie} : fSl x.d none (some 2) = some (.tup [.int x.a, .int x.b]) := rfl
theorem loopA {p : Plan} {i j : Int} : ∀ (m k : Nat), k + m = p.L.length → ∀ x3 : Sl, ∃ x3' : Sl, forL (gSet 3) (mIf (tPu (pOp2 (eqD false) (pSl fSl (pOp2 fAt (pOp2 fAt (pVar 0) (pC (.int 1))) (pVar 3)) (pNoPart) (pPart (pC (.int 2)))) (pTup (psCons (pFn fMin2 (psCons (pVar 1) (psCons (pVar 2) (psNil)))) (psCons (pFn fMax2 (psCons (pVar 1) (psCons (pVar 2) (psNil)))) (psNil)))))) (mRet (mP (pVar 3))) (mNext)) ((List.range' k m).map fun (i : Nat) => D.int i) [.d p.d, .d (.int i), .d (.int j), x3] =
      match atF (if j < i then j else i) (if j > i then j else i) k (p.L.drop k) with
      | some q => .rt (.int q) [.d p.d, .d (.int i), .d (.int j), x3']
      | none => .nx [.d p.d, .d (.int i), .d (.int j), x3']
  | 0, k, hk, x3 => ⟨x3, by rw [List.drop_eq_nil_of_le (by omega)]; rfl⟩
  | m + 1, k, hk, x3 => by
    have hlt : k < p.L.length := by omega
    have ek : fAt (.tup (p.L.map Tie.d)) (.int k) = some (p.L[k]).d := by
      rw [at_tup (by simpa using hlt)]; simp
    have mn : fMin2 [.int i, .int j] = some (.int (if j < i then j else i)) := rfl
    have mx : fMax2 [.int i, .int j] = some (.int (if j > i then j else i)) := rfl
    rw [List.range'_succ, List.map_cons, List.drop_eq_getElem_cons hlt]
    unfold atF
    by_cases hq : (p.L[k]).a = (if j < i then j else i) ∧ (p.L[k]).b = (if j > i then j else i)
    · rw [if_pos hq]
      refine ⟨.d (.int k), forL_rt (s1 := [.d p.d, .d (.int i), .d (.int j), .d (.int k)]) rfl ?_⟩
      simp [pf1, ek, tie_cut, mn, mx, szTup_ok, eq_pair, hq]
    · rw [if_neg hq]
      obtain ⟨x3', ih⟩ := loopA (p := p) (i := i) (j := j) m (k + 1) (by omega) (.d (.int k))
      refine ⟨x3', forL_cons (s1 := [.d p.d, .d (.int i), .d (.int j), .d (.int k)]) (s2 := [.d p.d, .d (.int i), .d (.int j), .d (.int k)]) rfl ?_ ih⟩
      simp [pf1, ek, tie_cut, mn, mx, szTup_ok, eq_pair, hq]
theorem range_len {ts : List D} {s : En} (h : ts.length < 1000) : rgR1 (some [.int ts.length]) s = .ok ((List.range ts.length).map fun (i : Nat) => D.int i) s := rg_len h
def optI : Option Nat → D
  | some k => .int k
  | none => .non
theorem lat_ok {p : Plan} (hp : POk p) {i j : Int} : outV (M_law_at [p.d, .int i, .int j]) = .ok (optI (atF (if j < i then j else i) (if j > i then j else i) 0 p.L)) := by
  have hl : (p.L.map Tie.d).length < 1000 := by have := hp.len; simp; omega
  obtain ⟨x3, el⟩ := loopA (p := p) (i := i) (j := j) p.L.length 0 (by simp) .no
  rw [← List.range_eq_range', List.drop_zero] at el
  have it : (iRange1 (aCons (eO (mP (pFn fLen (psCons (pOp2 fAt (pVar 0) (pC (.int 1))) (psNil))))) (aNil))) [.d p.d, .d (.int i), .d (.int j), .no] = .ok ((List.range p.L.length).map fun (i : Nat) => D.int i) [.d p.d, .d (.int i), .d (.int j), .no] := by
    have er := rg_len (s := [.d p.d, .d (.int i), .d (.int j), .no]) hl
    rw [List.length_map] at er
    simp -implicitDefEqProofs [pf1]; exact er
  have hb : ∀ o, B_law_at [.d p.d, .d (.int i), .d (.int j), .no] = o → M_law_at [p.d, .int i, .int j] = fnB 4 [] (fun _ => o) [p.d, .int i, .int j] := fun o e => by
    show fnB 4 [] B_law_at _ = _
    unfold fnB
    rw [show (args [] [p.d, .int i, .int j] ++ List.replicate (4 - [p.d, D.int i, .int j].length) .no) = [.d p.d, .d (.int i), .d (.int j), .no] from rfl, e]
  cases e : atF (if j < i then j else i) (if j > i then j else i) 0 p.L with
  | some q =>
    rw [e] at el
    rw [hb _ (by unfold B_law_at; exact sq_rt (for_eq it el))]
    rfl
  | none =>
    rw [e] at el
    rw [hb _ (by unfold B_law_at; exact sq (for_eq it el) (by simp; rfl))]
    rfl
theorem atF_some {lo hi : Int} : ∀ (L : List Tie) (k q : Nat), atF lo hi k L = some q → ∃ x ∈ L, ∃ h : q - k < L.length, k ≤ q ∧ L[q - k] = x ∧ x.a = lo ∧ x.b = hi
  | [], k, q, h => by cases h
  | x :: L, k, q, h => by
    unfold atF at h
    split at h
    · rename_i hx
      cases h
      refine ⟨x, List.mem_cons_self .., by simp, Nat.le_refl _, by simp, hx⟩
    · obtain ⟨y, hy, hl, hk, e, hh⟩ := atF_some L (k + 1) q h
      refine ⟨y, List.mem_cons_of_mem _ hy, by simp; omega, by omega, ?_, hh⟩
      rw [← e]
      have : q - k = (q - (k + 1)) + 1 := by omega
      simp only [this, List.getElem_cons_succ]
theorem atF_none {lo hi : Int} : ∀ (L : List Tie) (k : Nat), atF lo hi k L = none → ∀ x ∈ L, ¬ (x.a = lo ∧ x.b = hi)
  | [], k, h, x, hx => by cases hx
  | y :: L, k, h, x, hx => by
    unfold atF at h
    split at h
    · cases h
    · rename_i hy
      rcases List.mem_cons.mp hx with rfl | hx
      · exact hy
      · exact atF_none L (k + 1) h x hx
theorem llets_ok {p : Plan} (hp : POk p) {i j : Int} {q : Nat} {x : Tie} (h : atF (if j < i then j else i) (if j > i then j else i) 0 p.L = some q) (hq : q < p.L.length) (hx : p.L[q] = x) : outV (M_law_lets [p.d, .int i, .int j]) = .ok (.int (if j < i then x.u else x.t)) := by
  refine fnB_rt ⟨[.d p.d, .d (.int i), .d (.int j), .d x.d], ?_⟩
  show B_law_lets [.d p.d, .d (.int i), .d (.int j), .no] = _
  unfold B_law_lets
  have ea := lat_ok hp (i := i) (j := j)
  rw [h] at ea
  have ek : fAt (.tup (p.L.map Tie.d)) (.int q) = some x.d := by
    rw [at_tup (by simpa using hq)]; simp [hx]
  refine sq (s1 := [.d p.d, .d (.int i), .d (.int j), .d x.d]) (by simp [pf1, ea, optI, ek]) ?_
  by_cases hij : j < i
  · simp [hij, b2i, tie3]
  · simp [hij, b2i, tie2]
/-! the package's answers -/
theorem ch_ok {p : Plan} {d : D} (h : Gd d) : outV (M_check_house [webD p, d]) = if inR d 0 (p.n - 1) = true then .ok .non else .ex "NoHouse" [] := by
  have e := isbel h (n := p.n)
  cases hi : inR d 0 (p.n - 1) with
  | true =>
    rw [hi] at e
    have : B_check_house [.d (webD p), .d d] = .nx [.d (webD p), .d d] := by unfold B_check_house; simp [w_many, e]
    show outV (fnB 2 [] B_check_house [webD p, d]) = _
    rw [fnB_nx (n := 2) (m := []) (ds := [webD p, d]) this]
    rfl
  | false =>
    rw [hi] at e
    have : B_check_house [.d (webD p), .d d] = .ex "NoHouse" [] [.d (webD p), .d d] := by unfold B_check_house; simp [w_many, e]
    show outV (fnB 2 [] B_check_house [webD p, d]) = _
    rw [fnB_ex (n := 2) (m := []) (ds := [webD p, d]) this]
    rfl
theorem near_at {p : Plan} (hp : POk p) {i : Int} (h0 : 0 ≤ i) (h1 : i < p.n) : fAt (.lst (nearL p)) (.int i) = some (.tup ((srt (bes p.L i)).map D.int)) := by
  obtain ⟨k, rfl⟩ : ∃ k : Nat, i = k := ⟨i.toNat, by omega⟩
  have hk : k < (nearL p).length := by simp [nearL]; omega
  rw [at_lst hk]
  simp [nearL]
theorem inF_ints {neg : Bool} {j : Int} {l : List Int} : fInF neg (.int j) (.tup (l.map D.int)) = some (.bl (xor neg (decide (j ∈ l)))) := by
  show (if flatD (.int j) = true ∧ (l.map D.int).all flatD = true then some (D.bl (xor neg ((l.map D.int).any fun z => eqF z (.int j)))) else none) = _
  rw [if_pos ⟨rfl, by rw [List.all_eq_true]; intro x hx; obtain ⟨y, _, rfl⟩ := List.mem_map.mp hx; rfl⟩]
  congr 3
  rw [Bool.eq_iff_iff, List.any_eq_true, decide_eq_true_iff]
  constructor
  · rintro ⟨x, hx, h⟩
    obtain ⟨y, hy, rfl⟩ := List.mem_map.mp hx
    have : y = j := by simpa [eqF] using h
    exact this ▸ hy
  · intro h
    exact ⟨.int j, List.mem_map_of_mem h, by simp [eqF]⟩
theorem mem_bes {L : List Tie} {i j : Int} : j ∈ srt (bes L i) ↔ ∃ x ∈ L, (x.a = i ∧ x.b = j) ∨ (x.b = i ∧ x.a = j) := by
  unfold srt bes bes1 bes2
  rw [List.mem_mergeSort, List.mem_append, List.mem_filterMap, List.mem_filterMap]
  constructor
  · rintro (⟨x, hx, h⟩ | ⟨x, hx, h⟩)
    · split at h
      · rename_i hh; cases h; exact ⟨x, hx, .inl ⟨hh, rfl⟩⟩
      · cases h
    · split at h
      · rename_i hh; cases h; exact ⟨x, hx, .inr ⟨hh, rfl⟩⟩
      · cases h
  · rintro ⟨x, hx, ⟨h1, h2⟩ | ⟨h1, h2⟩⟩
    · exact .inl ⟨x, hx, by rw [if_pos h1, h2]⟩
    · exact .inr ⟨x, hx, by rw [if_pos h1, h2]⟩
theorem at_mem {p : Plan} (hp : POk p) {i j : Int} : (atF (if j < i then j else i) (if j > i then j else i) 0 p.L).isSome = decide (j ∈ srt (bes p.L i)) := by
  cases h : atF (if j < i then j else i) (if j > i then j else i) 0 p.L with
  | some q =>
    obtain ⟨x, hx, _, _, _, h1, h2⟩ := atF_some _ _ _ h
    have ho := hp.t x hx
    obtain ⟨g1, g2, g3, _⟩ := ho
    symm
    rw [Option.isSome_some, decide_eq_true_iff, mem_bes]
    refine ⟨x, hx, ?_⟩
    by_cases hij : j < i
    · rw [if_pos hij] at h1; rw [if_neg (by omega)] at h2
      exact .inr ⟨h2, h1⟩
    · rw [if_neg hij] at h1
      by_cases hji : j > i
      · rw [if_pos hji] at h2; exact .inl ⟨h1, h2⟩
      · rw [if_neg hji] at h2; omega
  | none =>
    have hn := atF_none _ _ h
    symm
    rw [Option.isSome_none, decide_eq_false_iff_not, mem_bes]
    rintro ⟨x, hx, ⟨h1, h2⟩ | ⟨h1, h2⟩⟩
    · obtain ⟨g1, g2, g3, _⟩ := hp.t x hx
      refine hn x hx ⟨?_, ?_⟩
      · rw [if_neg (by omega)]; exact h1
      · rw [if_pos (by omega)]; exact h2
    · obtain ⟨g1, g2, g3, _⟩ := hp.t x hx
      refine hn x hx ⟨?_, ?_⟩
      · rw [if_pos (by omega)]; exact h2
      · rw [if_neg (by omega)]; exact h1
theorem room_at {p : Plan} (hp : POk p) {i j : Int} {q : Nat} {x : Tie} (h : atF (if j < i then j else i) (if j > i then j else i) 0 p.L = some q) (hq : q < p.L.length) (hx : p.L[q] = x) : fAt (.dtt (roomK p.L [])) (pr i j) = some (.int (if j < i then x.u else x.t)) := by
  obtain ⟨y, hy, hl, _, e, h1, h2⟩ := atF_some _ _ _ h
  have : y = x := by rw [← e, ← hx]; simp
  subst this
  obtain ⟨g1, g2, g3, _⟩ := hp.t y hy
  obtain ⟨k1, k2⟩ := roomK_get hp.n10 p.L [] hp.t hp.up y hy
  show (some (lookT (roomK p.L []) (kk i j))).join = _
  by_cases hij : j < i
  · rw [if_pos hij] at h1 ⊢; rw [if_neg (by omega)] at h2
    rw [← h1, ← h2, k2]; rfl
  · rw [if_neg hij] at h1 ⊢
    by_cases hji : j > i
    · rw [if_pos hji] at h2; rw [← h1, ← h2, k1]; rfl
    · rw [if_neg hji] at h2; omega
def tieOk (p : Plan) (a b : D) : Bool := match a, b with
  | .int i, .int j => inR a 0 (p.n - 1) && (inR b 0 (p.n - 1) && decide (j ∈ srt (bes p.L i)))
  | _, _ => false
theorem ct_bad1 {p : Plan} {a b : D} (ha : Gd a) (hb : Gd b) (hi : inR a 0 (p.n - 1) = false ∨ inR b 0 (p.n - 1) = false) : outV (M_check_tie [webD p, a, b]) = .ex "NoHouse" [] := by
  have e1 := ch_ok (p := p) ha
  have e2 := ch_ok (p := p) hb
  have : B_check_tie [.d (webD p), .d a, .d b] = .ex "NoHouse" [] [.d (webD p), .d a, .d b] := by
    unfold B_check_tie
    cases h1 : inR a 0 (p.n - 1) with
    | false =>
      rw [if_neg (by rw [h1]; decide)] at e1
      exact sq_ex (by simp [e1])
    | true =>
      rw [if_pos h1] at e1
      have h2 : inR b 0 (p.n - 1) = false := by rcases hi with h | h; (rw [h1] at h; cases h); exact h
      rw [if_neg (by rw [h2]; decide)] at e2
      exact sq (s1 := [.d (webD p), .d a, .d b]) (by simp [e1]) (sq_ex (by simp [e2]))
  show outV (fnB 3 [] B_check_tie [webD p, a, b]) = _
  rw [fnB_ex (n := 3) (m := []) (ds := [webD p, a, b]) this]
  rfl
theorem ct_ints {p : Plan} (hp : POk p) {i j : Int} (h0 : 0 ≤ i) (h1 : i < p.n) (h2 : 0 ≤ j) (h3 : j < p.n) : outV (M_check_tie [webD p, .int i, .int j]) = if j ∈ srt (bes p.L i) then .ok .non else .ex "NoTie" [] := by
  have e1 := ch_ok (p := p) (d := .int i) trivial
  rw [if_pos (by simp [inR]; omega)] at e1
  have e2 := ch_ok (p := p) (d := .int j) trivial
  rw [if_pos (by simp [inR]; omega)] at e2
  have en := near_at hp h0 h1
  by_cases hm : j ∈ srt (bes p.L i)
  · rw [if_pos hm]
    have : B_check_tie [.d (webD p), .d (.int i), .d (.int j)] = .nx [.d (webD p), .d (.int i), .d (.int j)] := by
      unfold B_check_tie
      exact sq (s1 := [.d (webD p), .d (.int i), .d (.int j)]) (by simp [e1]) (sq (s1 := [.d (webD p), .d (.int i), .d (.int j)]) (by simp [e2]) (by simp [w_near, en, inF_ints, hm]))
    show outV (fnB 3 [] B_check_tie [webD p, .int i, .int j]) = _
    rw [fnB_nx (n := 3) (m := []) (ds := [webD p, .int i, .int j]) this]
    rfl
  · rw [if_neg hm]
    have : B_check_tie [.d (webD p), .d (.int i), .d (.int j)] = .ex "NoTie" [] [.d (webD p), .d (.int i), .d (.int j)] := by
      unfold B_check_tie
      exact sq (s1 := [.d (webD p), .d (.int i), .d (.int j)]) (by simp [e1]) (sq (s1 := [.d (webD p), .d (.int i), .d (.int j)]) (by simp [e2]) (by simp [w_near, en, inF_ints, hm]))
    show outV (fnB 3 [] B_check_tie [webD p, .int i, .int j]) = _
    rw [fnB_ex (n := 3) (m := []) (ds := [webD p, .int i, .int j]) this]
    rfl
/-! told -/
def tNear (p : Plan) (i : Int) : D := .tup [.str "told", .tup ((srt (bes p.L i)).map D.int)]
theorem is_non {d : D} : fIs d .non = some (.bl (Mir.isNon d)) := by cases d <;> rfl
theorem is_bl {d : D} {b : Bool} : fIs d (.bl b) = some (.bl (isBl b d)) := by cases d <;> rfl
theorem isnot_non {d : D} : fIsNot d .non = some (.bl (!Mir.isNon d)) := by cases d <;> rfl
theorem i_str {d : D} (h : Gd d) : isi_str d = some (isS d) := by
  cases d with
  | ins c fs => cases (show c = "Web" from h); rfl
  | box d => exact h.elim
  | _ => rfl
theorem i_list {d : D} (h : Gd d) : isi_list d = some (isL d) := by
  cases d with
  | ins c fs => cases (show c = "Web" from h); rfl
  | box d => exact h.elim
  | _ => rfl
theorem v_neB {a b : Bool} : eqD true (.bl a) (.bl b) = some (.bl (!(a == b))) := by
  rw [eqD_pl (n := 0) (m := 0) rfl rfl (by decide) (by decide)]
  simp [deq, toPy, PyData.eqv]
theorem same_loop {M0 : List D → Out} {x0 x1 : Sl} : ∀ (ds : List D) (x2 x3 : Sl), (∀ x ∈ ds, outV (M0 [x, x]) = .ok (.bl true)) → ∃ x2' x3' : Sl, forL (gUn (gOne (gSet 2) (gOne (gSet 3) (gNone)))) (mIf (mNot (tPu (pCall 2 M0 (psCons (pVar 2) (psCons (pVar 3) (psNil)))))) (mRet (mP (pC (.bl false)))) (mNext)) (zipD ds ds) [x0, x1, x2, x3] = .nx [x0, x1, x2', x3']
  | [], x2, x3, _ => ⟨x2, x3, rfl⟩
  | d :: ds, x2, x3, h => by
    obtain ⟨a, b, e⟩ := same_loop (x0 := x0) (x1 := x1) ds (.d d) (.d d) fun x hx => h x (List.mem_cons_of_mem _ hx)
    refine ⟨a, b, ?_⟩
    unfold zipD
    exact forL_cons (s1 := [x0, x1, .d d, .d d]) (s2 := [x0, x1, .d d, .d d]) rfl (by simp [h d (List.mem_cons_self ..)]) e
theorem same_refl : ∀ (n f : Nat) (d : D), pl n d = true → n < f → outV (M_law_same f [d, d]) = .ok (.bl true)
  | _, 0, _, _, hf => absurd hf (Nat.not_lt_zero _)
  | n, f + 1, d, h, hf => by
    refine fnB_rt ?_
    show ∃ s, B_law_same (M_law_same f) [.d d, .d d, .no, .no] = _
    unfold B_law_same
    have flat : plF d = true → Gd d := fun h => (flat_gds h).1
    cases d with
    | non => exact ⟨[.d .non, .d .non, .no, .no], sq_rt (by simp [is_non, Mir.isNon])⟩
    | bl b =>
      cases b
      · exact ⟨[.d (.bl false), .d (.bl false), .no, .no], sq (s1 := [.d (.bl false), .d (.bl false), .no, .no]) (by simp [is_non, Mir.isNon]) (sq (s1 := [.d (.bl false), .d (.bl false), .no, .no]) (by simp [is_bl, isBl]) (sq_rt (by simp [is_bl, isBl])))⟩
      · exact ⟨[.d (.bl true), .d (.bl true), .no, .no], sq (s1 := [.d (.bl true), .d (.bl true), .no, .no]) (by simp [is_non, Mir.isNon]) (sq_rt (by simp [is_bl, isBl]))⟩
    | int i =>
      have e1 := i_int (d := .int i) trivial
      have e2 := lisint (d := .int i) trivial
      exact ⟨[.d (.int i), .d (.int i), .no, .no], sq (s1 := [.d (.int i), .d (.int i), .no, .no]) (by simp [is_non, Mir.isNon]) (sq (s1 := [.d (.int i), .d (.int i), .no, .no]) (by simp [is_bl, isBl]) (sq (s1 := [.d (.int i), .d (.int i), .no, .no]) (by simp [is_bl, isBl]) (sq_rt (by simp [e1, e2, isI, ev_and]))))⟩
    | str x =>
      have e1 := i_int (d := .str x) trivial
      have e2 := i_str (d := .str x) trivial
      have hx : pl 0 (.str x) = true := by cases n <;> exact h
      have e3 := eqD_pl (neg := false) hx hx (by decide) (by decide)
      rw [deq_refl _ hx] at e3
      exact ⟨[.d (.str x), .d (.str x), .no, .no], sq (s1 := [.d (.str x), .d (.str x), .no, .no]) (by simp [is_non, Mir.isNon]) (sq (s1 := [.d (.str x), .d (.str x), .no, .no]) (by simp [is_bl, isBl]) (sq (s1 := [.d (.str x), .d (.str x), .no, .no]) (by simp [is_bl, isBl]) (sq (s1 := [.d (.str x), .d (.str x), .no, .no]) (by simp [e1, isI, isB]) (sq_rt (by simp [e2, isS, ev_and, e3])))))⟩
    | tup ds =>
      match n, h with
      | n + 1, h =>
        have e1 := i_int (d := .tup ds) trivial
        have e2 := i_str (d := .tup ds) trivial
        have e3 := i_tuple (d := .tup ds) trivial
        have e4 := i_list (d := .tup ds) trivial
        obtain ⟨a, b, el⟩ := same_loop (M0 := M_law_same f) (x0 := .d (.tup ds)) (x1 := .d (.tup ds)) ds .no .no fun x hx => same_refl n f x (List.all_eq_true.mp h x hx) (by omega)
        have E : ∀ {p : MS}, p [.d (.tup ds), .d (.tup ds), .no, .no] = .nx [.d (.tup ds), .d (.tup ds), .no, .no] → True := fun _ => trivial
        refine ⟨[.d (.tup ds), .d (.tup ds), a, b], ?_⟩
        refine sq (s1 := [.d (.tup ds), .d (.tup ds), .no, .no]) (by simp [is_non, Mir.isNon]) ?_
        refine sq (s1 := [.d (.tup ds), .d (.tup ds), .no, .no]) (by simp [is_bl, isBl]) ?_
        refine sq (s1 := [.d (.tup ds), .d (.tup ds), .no, .no]) (by simp [is_bl, isBl]) ?_
        refine sq (s1 := [.d (.tup ds), .d (.tup ds), .no, .no]) (by simp [e1, isI, isB]) ?_
        refine sq (s1 := [.d (.tup ds), .d (.tup ds), .no, .no]) (by simp [e2, isS]) ?_
        refine sq (s1 := [.d (.tup ds), .d (.tup ds), .no, .no]) (by simp [e3, e4, isT, isL, v_neB]) ?_
        refine sq (s1 := [.d (.tup ds), .d (.tup ds), .no, .no]) (by simp) ?_
        exact sq (for_eq (ds := zipD ds ds) (s1 := [.d (.tup ds), .d (.tup ds), .no, .no]) rfl el) (by simp)
      | 0, h => cases h
    | lst ds =>
      match n, h with
      | n + 1, h =>
        have e1 := i_int (d := .lst ds) trivial
        have e2 := i_str (d := .lst ds) trivial
        have e3 := i_tuple (d := .lst ds) trivial
        have e4 := i_list (d := .lst ds) trivial
        have h' : ds.all (pl n) = true := h
        obtain ⟨a, b, el⟩ := same_loop (M0 := M_law_same f) (x0 := .d (.lst ds)) (x1 := .d (.lst ds)) ds .no .no fun x hx => same_refl n f x (List.all_eq_true.mp h' x hx) (by omega)
        refine ⟨[.d (.lst ds), .d (.lst ds), a, b], ?_⟩
        refine sq (s1 := [.d (.lst ds), .d (.lst ds), .no, .no]) (by simp [is_non, Mir.isNon]) ?_
        refine sq (s1 := [.d (.lst ds), .d (.lst ds), .no, .no]) (by simp [is_bl, isBl]) ?_
        refine sq (s1 := [.d (.lst ds), .d (.lst ds), .no, .no]) (by simp [is_bl, isBl]) ?_
        refine sq (s1 := [.d (.lst ds), .d (.lst ds), .no, .no]) (by simp [e1, isI, isB]) ?_
        refine sq (s1 := [.d (.lst ds), .d (.lst ds), .no, .no]) (by simp [e2, isS]) ?_
        refine sq (s1 := [.d (.lst ds), .d (.lst ds), .no, .no]) (by simp [e3, e4, isT, isL, v_neB]) ?_
        refine sq (s1 := [.d (.lst ds), .d (.lst ds), .no, .no]) (by simp) ?_
        exact sq (for_eq (ds := zipD ds ds) (s1 := [.d (.lst ds), .d (.lst ds), .no, .no]) rfl el) (by simp)
      | 0, h => cases h
    | _ => cases n <;> cases h
/-! what is bad is plain -/
theorem ite_some {B : Bool} {y x : D} (h : (if B = true then some y else none) = some x) : x = y := by
  cases B
  · cases h
  · cases h; rfl
theorem badP_pl {a b c d x : D} (h : badP a b c d = some x) : pl 1 x = true ∧ Mir.isNon x = false := by
  unfold badP at h
  split at h
  · cases h; exact ⟨by decide +kernel, rfl⟩
  · split at h
    · split at h
      · cases h; exact ⟨rfl, rfl⟩
      · split at h
        · cases h; exact ⟨by decide +kernel, rfl⟩
        · have := ite_some h
          subst this; exact ⟨by decide +kernel, rfl⟩
    · cases h; exact ⟨rfl, rfl⟩
theorem pl_told {p : Plan} : pl 4 (toldD p) = true := by
  show List.all [D.str "told", D.int p.n, .tup (p.L.map Tie.d), .int p.s, .int p.m] (pl 3) = true
  have : pl 3 (.tup (p.L.map Tie.d)) = true := pl_ties
  have h2 : pl 3 (.str "told") = true := by decide +kernel
  simp [this, h2]
  exact ⟨rfl, rfl, rfl⟩
theorem pl_badR {x : D} (h : pl 1 x = true) : pl 2 (.tup [.str "BadWeb", x]) = true := by
  show List.all [D.str "BadWeb", x] (pl 1) = true
  have h2 : pl 1 (.str "BadWeb") = true := by decide +kernel
  simp [h, h2]
/-! the law's first loop -/
theorem pl_str (x : Str) (h : PyData.strOk x = true) {n : Nat} : pl n (.str x) = true := by cases n <;> exact h
theorem pl_ints {n : Nat} (l : List Int) : (l.map D.int).all (pl n) = true := by
  rw [List.all_eq_true]
  intro d hd
  obtain ⟨x, _, rfl⟩ := List.mem_map.mp hd
  cases n <;> rfl
theorem pl_one {x : Str} (h : PyData.strOk x = true) : pl 3 (.tup [.str x]) = true := by
  show List.all [D.str x] (pl 2) = true
  simp [pl_str x h]
theorem pl_near {p : Plan} {i : Int} : pl 3 (tNear p i) = true := by
  show List.all [D.str "told", .tup ((srt (bes p.L i)).map D.int)] (pl 2) = true
  have h1 : pl 2 (.tup ((srt (bes p.L i)).map D.int)) = true := pl_ints _
  simp [h1, pl_str "told" (by decide +kernel)]
theorem pl_lets {k : Int} : pl 3 (.tup [.str "told", .int k]) = true := by
  show List.all [D.str "told", .int k] (pl 2) = true
  simp [pl_str "told" (by decide +kernel)]
  rfl
theorem v_plan0 {p : Plan} : fAt p.d (.int 0) = some (.int p.n) := rfl
/-! the law's second loop -/
theorem hand_ok (ns : List Int) (hl : ns.length ≤ 63) : ∃ h, M_law_hand [.lst (ns.map .int)] = .ro h [] ∧ Hand h := by
  refine ⟨hnd ns 0 0 1 0, ?_, ns, 0, 0, 1, 0, rfl, ⟨by decide, by decide, by decide, Nat.zero_le _⟩⟩
  have e : B_law_hand [.d (.lst (ns.map .int))] = .ro (hnd ns 0 0 1 0) [.d (.lst (ns.map .int))] := by
    unfold B_law_hand
    have : fList [.lst (ns.map D.int)] = some (.lst (ns.map D.int)) := rfl
    simp [this, szR_ok, hnd]
  show fnB 1 [] B_law_hand [.lst (ns.map .int)] = _
  unfold fnB
  rw [show (args [] [D.lst (ns.map .int)] ++ List.replicate (1 - [D.lst (ns.map .int)].length) .no) = [.d (.lst (ns.map .int))] from rfl, e]
  rfl
end Law
namespace Law
open PySem PySem.Spec PyProof.Rows L2 Mir
/-! ### streams, ways: no program in sight -/
def ixL (L : List Tie) (i j : Int) : Option Nat := atF (if j < i then j else i) (if j > i then j else i) 0 L
def flw (L : List Tie) (xs : List Int) (i j : Int) : Int := match ixL L i j with
  | some k => if j < i then -(xs.getD k 0) else xs.getD k 0
  | none => 0
def ltt (L : List Tie) (i j : Int) : Int := match ixL L i j with
  | some k => match L[k]? with
    | some x => if j < i then x.u else x.t
    | none => 0
  | none => 0
def rom (L : List Tie) (xs : List Int) (i j : Int) : Int := ltt L i j - flw L xs i j
def netT : List Tie → List Int → Int → Int
  | x :: L, v :: xs, h => (if x.b = h then v else 0) - (if x.a = h then v else 0) + netT L xs h
  | _, _, _ => 0
structure SOk (p : Plan) (xs : List Int) : Prop where
  len : xs.length = p.L.length
  lo : ∀ k (h : k < p.L.length), -(p.L[k]).u ≤ xs.getD k 0
  hi : ∀ k (h : k < p.L.length), xs.getD k 0 ≤ (p.L[k]).t
  con : ∀ h : Int, 0 ≤ h → h < p.n → h ≠ p.s → h ≠ p.m → netT p.L xs h = 0
/-- a tie's place -/
theorem ix_some {L : List Tie} {i j : Int} {k : Nat} (h : ixL L i j = some k) : ∃ hk : k < L.length, (L[k]).a = (if j < i then j else i) ∧ (L[k]).b = (if j > i then j else i) := by
  obtain ⟨x, hx, hl, _, e, h1, h2⟩ := atF_some _ _ _ h
  refine ⟨by simpa using hl, ?_⟩
  have : L[k]'(by simpa using hl) = x := by rw [← e]; simp
  rw [this]; exact ⟨h1, h2⟩
theorem ix_same {L : List Tie} {i j i' j' : Int} {k : Nat} (h : ixL L i j = some k) (h' : ixL L i' j' = some k) : (i = i' ∧ j = j') ∨ (i = j' ∧ j = i') := by
  obtain ⟨hk, a1, b1⟩ := ix_some h
  obtain ⟨_, a2, b2⟩ := ix_some h'
  rw [a1] at a2
  rw [b1] at b2
  split at a2 <;> split at a2 <;> split at b2 <;> split at b2 <;> omega
theorem ix_comm {L : List Tie} {i j : Int} : ixL L i j = ixL L j i := by
  unfold ixL
  rcases Int.lt_trichotomy i j with h | h | h
  · rw [if_neg (by omega), if_pos (by omega), if_pos (by omega), if_neg (by omega)]
  · subst h; rfl
  · rw [if_pos (by omega), if_neg (by omega), if_neg (by omega), if_pos (by omega)]
def stp (L : List Tie) (xs : List Int) (u i j : Int) : List Int := match ixL L i j with
  | some k => xs.set k (xs.getD k 0 + u * (1 - 2 * (if j < i then 1 else 0)))
  | none => xs
theorem stp_len {L : List Tie} {xs : List Int} {u i j : Int} : (stp L xs u i j).length = xs.length := by
  unfold stp
  split <;> simp
theorem netT_set : ∀ (L : List Tie) (xs : List Int) (k : Nat) (v h : Int) (hk : k < L.length), xs.length = L.length → netT L (xs.set k v) h = netT L xs h + (if (L[k]).b = h then v - xs.getD k 0 else 0) - (if (L[k]).a = h then v - xs.getD k 0 else 0)
  | [], _, k, _, _, hk, _ => absurd hk (Nat.not_lt_zero _)
  | x :: L, [], _, _, _, _, hl => by simp at hl
  | x :: L, y :: xs, 0, v, h, _, _ => by
    simp only [List.set_cons_zero, netT, List.getElem_cons_zero, List.getD_cons_zero]
    split <;> split <;> omega
  | x :: L, y :: xs, k + 1, v, h, hk, hl => by
    simp only [List.set_cons_succ, netT, List.getElem_cons_succ, List.getD_cons_succ]
    rw [netT_set L xs k v h (by simpa using hk) (by simpa using hl)]
    omega
theorem netT_stp {L : List Tie} {xs : List Int} {u i j : Int} {k : Nat} (hx : ixL L i j = some k) (ht : ∀ x ∈ L, x.a < x.b) (hl : xs.length = L.length) (h : Int) : netT L (stp L xs u i j) h = netT L xs h + u * ((if h = j then 1 else 0) - (if h = i then 1 else 0)) := by
  obtain ⟨hk, a1, b1⟩ := ix_some hx
  have hab := ht _ (List.getElem_mem hk)
  unfold stp
  rw [hx]
  dsimp only
  rw [netT_set L xs k _ h hk hl, a1, b1]
  rw [a1, b1] at hab
  rcases Int.lt_trichotomy i j with q | q | q
  · simp only [if_neg (show ¬ j < i by omega), if_pos (show j > i by omega)]
    split <;> split <;> split <;> split <;> omega
  · subst q; simp at hab
  · simp only [if_pos (show j < i by omega), if_neg (show ¬ j > i by omega)]
    split <;> split <;> split <;> split <;> omega
/-- what goes along a walk -/
def sendW (L : List Tie) (u : Int) : List Int → List Int → List Int
  | i :: j :: r, xs => sendW L u (j :: r) (stp L xs u i j)
  | _, xs => xs
def stepsOf : List Int → List (Int × Int)
  | i :: j :: r => (i, j) :: stepsOf (j :: r)
  | _ => []
def Dif (s t : Int × Int) : Prop := ¬ ((s.1 = t.1 ∧ s.2 = t.2) ∨ (s.1 = t.2 ∧ s.2 = t.1))
theorem sendW_len {L : List Tie} {u : Int} : ∀ (w xs : List Int), (sendW L u w xs).length = xs.length
  | [], _ => rfl
  | [_], _ => rfl
  | i :: j :: r, xs => by rw [sendW, sendW_len, stp_len]
theorem sendW_net {L : List Tie} {u : Int} (ht : ∀ x ∈ L, x.a < x.b) (h : Int) : ∀ (i : Int) (r xs : List Int), xs.length = L.length → (∀ s ∈ stepsOf (i :: r), ∃ k, ixL L s.1 s.2 = some k) →
    netT L (sendW L u (i :: r) xs) h = netT L xs h + u * ((if h = (i :: r).getLast (List.cons_ne_nil _ _) then 1 else 0) - (if h = i then 1 else 0))
  | i, [], xs, _, _ => by
    show netT L xs h = netT L xs h + u * ((if h = i then 1 else 0) - (if h = i then 1 else 0))
    rw [Int.sub_self, Int.mul_zero, Int.add_zero]
  | i, j :: r, xs, hl, hs => by
    obtain ⟨k, hk⟩ := hs (i, j) (List.mem_cons_self ..)
    change ixL L i j = some k at hk
    rw [sendW, sendW_net ht h j r _ (by rw [stp_len, hl]) fun s hs' => hs s (List.mem_cons_of_mem _ hs'), netT_stp hk ht hl, List.getLast_cons (List.cons_ne_nil _ _)]
    have e : ∀ a b c : Int, u * (b - c) + u * (a - b) = u * (a - c) := fun a b c => by rw [← Int.mul_add]; congr 1; omega
    have := e (if h = (j :: r).getLast (List.cons_ne_nil _ _) then 1 else 0) (if h = j then 1 else 0) (if h = i then 1 else 0)
    omega
/-- within what is let -/
def Bnd (L : List Tie) (xs : List Int) : Prop := ∀ k (h : k < L.length), -(L[k]).u ≤ xs.getD k 0 ∧ xs.getD k 0 ≤ (L[k]).t
theorem getD_set {xs : List Int} {k m : Nat} {v : Int} (h : k < xs.length) : (xs.set k v).getD m 0 = if m = k then v else xs.getD m 0 := by
  rw [List.getD_eq_getElem?_getD, List.getElem?_set]
  by_cases e : k = m
  · subst e; simp [h]
  · rw [if_neg e, if_neg (fun z => e z.symm), List.getD_eq_getElem?_getD]
theorem ltt_eq {L : List Tie} {i j : Int} {k : Nat} (h : ixL L i j = some k) (hk : k < L.length) : ltt L i j = if j < i then (L[k]).u else (L[k]).t := by
  unfold ltt
  rw [h]
  simp [hk]
theorem flw_eq {L : List Tie} {xs : List Int} {i j : Int} {k : Nat} (h : ixL L i j = some k) : flw L xs i j = if j < i then -(xs.getD k 0) else xs.getD k 0 := by
  unfold flw
  rw [h]
theorem stp_bnd {L : List Tie} {xs : List Int} {u i j : Int} {k : Nat} (hb : Bnd L xs) (hl : xs.length = L.length) (hu : 0 ≤ u) (hx : ixL L i j = some k) (hr : u ≤ rom L xs i j) : Bnd L (stp L xs u i j) := by
  obtain ⟨hk, a1, b1⟩ := ix_some hx
  unfold rom at hr
  rw [ltt_eq hx hk, flw_eq hx] at hr
  intro m hm
  unfold stp
  rw [hx]
  dsimp only
  rw [getD_set (by omega)]
  split
  · rename_i e
    subst e
    have := hb m hm
    split at hr
    · rename_i q; simp only [q, if_true] at *; omega
    · rename_i q; simp only [q, if_false] at *; omega
  · exact hb m hm
theorem stp_rom {L : List Tie} {xs : List Int} {u i j i' j' : Int} (hl : xs.length = L.length) (hd : Dif (i, j) (i', j')) : rom L (stp L xs u i j) i' j' = rom L xs i' j' := by
  unfold rom
  congr 1
  unfold stp
  cases h : ixL L i j with
  | none => rfl
  | some k =>
    obtain ⟨hk, _⟩ := ix_some h
    cases h' : ixL L i' j' with
    | none => unfold flw; rw [h']
    | some k' =>
      rw [flw_eq h', flw_eq h']
      have : k' ≠ k := fun e => by
        subst e
        exact hd (ix_same h h')
      dsimp only
      rw [getD_set (by omega), if_neg this]
theorem sendW_bnd {L : List Tie} {u : Int} (hu : 0 ≤ u) : ∀ (w xs : List Int), xs.length = L.length → Bnd L xs → (stepsOf w).Pairwise Dif → (∀ s ∈ stepsOf w, (∃ k, ixL L s.1 s.2 = some k) ∧ u ≤ rom L xs s.1 s.2) → Bnd L (sendW L u w xs)
  | [], _, _, hb, _, _ => hb
  | [_], _, _, hb, _, _ => hb
  | i :: j :: r, xs, hl, hb, hp, hs => by
    rw [stepsOf, List.pairwise_cons] at hp
    obtain ⟨⟨k, hk⟩, hr⟩ := hs (i, j) (List.mem_cons_self ..)
    rw [sendW]
    refine sendW_bnd hu (j :: r) _ (by rw [stp_len, hl]) (stp_bnd hb hl hu hk hr) hp.2 fun s hs' => ?_
    have := hs s (List.mem_cons_of_mem _ hs')
    refine ⟨this.1, ?_⟩
    rw [stp_rom (i' := s.1) (j' := s.2) hl (hp.1 s hs')]
    exact this.2
theorem steps_mem : ∀ {w : List Int} {s : Int × Int}, s ∈ stepsOf w → s.1 ∈ w ∧ s.2 ∈ w.tail
  | i :: j :: r, s, h => by
    rcases List.mem_cons.mp h with rfl | h
    · exact ⟨List.mem_cons_self .., List.mem_cons_self ..⟩
    · obtain ⟨h1, h2⟩ := steps_mem h
      exact ⟨List.mem_cons_of_mem _ h1, List.mem_cons_of_mem _ h2⟩
theorem nodup_steps : ∀ {w : List Int}, w.Nodup → (stepsOf w).Pairwise Dif
  | [], _ => .nil
  | [_], _ => .nil
  | i :: j :: r, h => by
    rw [stepsOf, List.pairwise_cons]
    rw [List.nodup_cons] at h
    refine ⟨fun s hs => ?_, nodup_steps h.2⟩
    obtain ⟨h1, h2⟩ := steps_mem hs
    have h2 := List.mem_of_mem_tail h2
    rintro (⟨e, _⟩ | ⟨e, _⟩)
    · exact h.1 (by rw [show i = s.1 from e]; exact h1)
    · exact h.1 (by rw [show i = s.2 from e]; exact h2)
theorem ring_steps {one o : Int} {r : List Int} (h : (o :: r).Nodup) (hl : (o :: r).getLast (List.cons_ne_nil _ _) = one) (h3 : 2 ≤ r.length) : (stepsOf (one :: o :: r)).Pairwise Dif := by
  rw [stepsOf, List.pairwise_cons]
  refine ⟨fun s hs => ?_, nodup_steps h⟩
  rw [List.nodup_cons] at h
  match r, h3 with
  | a :: b :: r', _ =>
    rw [stepsOf] at hs
    have hone : one ∈ b :: r' := by
      rw [← hl, List.getLast_cons (List.cons_ne_nil _ _), List.getLast_cons (List.cons_ne_nil _ _)]
      exact List.getLast_mem _
    rcases List.mem_cons.mp hs with rfl | hs
    · rintro (⟨e1, e2⟩ | ⟨e1, e2⟩)
      · exact h.1 (by rw [← show one = o from e1]; exact List.mem_cons_of_mem _ hone)
      · have : one = a := e1
        rw [List.nodup_cons] at h
        exact h.2.1 (this ▸ hone)
    · obtain ⟨h1, h2⟩ := steps_mem hs
      have h2 := List.mem_of_mem_tail h2
      rintro (⟨e1, e2⟩ | ⟨e1, e2⟩)
      · exact h.1 (by rw [show o = s.2 from e2]; exact h2)
      · exact h.1 (by rw [show o = s.1 from e2]; exact h1)
/-- a walk along ties with room -/
def Wk (L : List Tie) (xs : List Int) (w : List Int) : Prop := ∀ s ∈ stepsOf w, (∃ k, ixL L s.1 s.2 = some k) ∧ 0 < rom L xs s.1 s.2
theorem sent_ok {p : Plan} (hp : POk p) {xs : List Int} (hs : SOk p xs) {u i : Int} {r : List Int} (hu : 0 ≤ u) (hw : ∀ s ∈ stepsOf (i :: r), (∃ k, ixL p.L s.1 s.2 = some k) ∧ u ≤ rom p.L xs s.1 s.2) (hd : (stepsOf (i :: r)).Pairwise Dif)
    (he : (i = (i :: r).getLast (List.cons_ne_nil _ _)) ∨ ((i = p.s ∨ i = p.m) ∧ ((i :: r).getLast (List.cons_ne_nil _ _) = p.s ∨ (i :: r).getLast (List.cons_ne_nil _ _) = p.m))) : SOk p (sendW p.L u (i :: r) xs) := by
  have hb := sendW_bnd hu (i :: r) xs hs.len (fun k h => ⟨hs.lo k h, hs.hi k h⟩) hd hw
  refine ⟨by rw [sendW_len, hs.len], fun k h => (hb k h).1, fun k h => (hb k h).2, fun h h0 h1 h2 h3 => ?_⟩
  rw [sendW_net (fun x hx => (hp.t x hx).2.1) h i r xs hs.len fun s hs' => (hw s hs').1, hs.con h h0 h1 h2 h3]
  rcases he with he | ⟨he1, he2⟩
  · rw [← he]; simp
  · rw [if_neg (by rcases he2 with e | e <;> rw [e] <;> assumption), if_neg (by rcases he1 with e | e <;> rw [e] <;> assumption)]
    simp
end Law
namespace Mir
open PySem PySem.Spec PyProof.Rows L2
theorem lcL_gen {vs : List Nat} {g : D → En → Option En} {t : MT} {e : ME} (f : D → Option D) (st : D → En) (s : En) : ∀ (ds acc : List D) (s0 : En), wipeD s0 vs = s → (∀ d ∈ ds, wipeD (st d) vs = s ∧ g d s = some (st d) ∧ ∃ b, t (st d) = .ok b (st d) ∧ match b with
    | true => ∃ y, e (st d) = .ok y (st d) ∧ f d = some y
    | false => f d = none) → acc.length + ds.length ≤ 1000 → ∃ s', lcL vs g t e ds acc s0 = .ok (acc ++ ds.filterMap f) s' ∧ (s' = s0 ∨ ∃ d ∈ ds, s' = st d)
  | [], acc, s0, _, _, _ => ⟨s0, by simp [lcL], .inl rfl⟩
  | d :: ds, acc, s0, h0, H, hl => by
    obtain ⟨hw, hg, b, e1, hb⟩ := H d (List.mem_cons_self ..)
    have hH := fun d' hd' => H d' (List.mem_cons_of_mem d hd')
    rw [List.length_cons] at hl
    have hsz : acc.length < sizeLine := Nat.lt_of_lt_of_le (show acc.length < 1000 by omega) (by rw [sizeLine_eq]; decide)
    unfold lcL
    rw [h0, hg]
    dsimp only
    rw [e1]
    cases b with
    | true =>
      obtain ⟨y, e2, ef⟩ := hb
      obtain ⟨s', e3, h3⟩ := lcL_gen f st s ds (acc ++ [y]) (st d) hw hH (by simp; omega)
      refine ⟨s', ?_, ?_⟩
      · show (noEx (e _)).bind _ = _
        rw [e2]
        show (if acc.length < sizeLine then _ else _) = _
        rw [if_pos hsz, e3, List.filterMap_cons, ef]
        simp
      · rcases h3 with h3 | ⟨d', hd', h3⟩
        · exact .inr ⟨d, List.mem_cons_self .., h3⟩
        · exact .inr ⟨d', List.mem_cons_of_mem _ hd', h3⟩
    | false =>
      obtain ⟨s', e3, h3⟩ := lcL_gen f st s ds acc (st d) hw hH (by omega)
      refine ⟨s', ?_, ?_⟩
      · show lcL vs g t e ds acc (st d) = _
        rw [e3, List.filterMap_cons, show f d = none from hb]
      · rcases h3 with h3 | ⟨d', hd', h3⟩
        · exact .inr ⟨d, List.mem_cons_self .., h3⟩
        · exact .inr ⟨d', List.mem_cons_of_mem _ hd', h3⟩
theorem mLc_gen {vs : List Nat} {it : En → Res (List D)} {g : D → En → Option En} {t : MT} {e : ME} {s : En} {ds : List D} (f : D → Option D) (st : D → En) (hi : it s = .ok ds s) (hw0 : wipeD s vs = s) (hr0 : restD s s vs = s) (hl : ds.length ≤ 1000)
    (H : ∀ d ∈ ds, restD s (st d) vs = s ∧ wipeD (st d) vs = s ∧ g d s = some (st d) ∧ ∃ b, t (st d) = .ok b (st d) ∧ match b with
    | true => ∃ y, e (st d) = .ok y (st d) ∧ f d = some y
    | false => f d = none) : mLc vs it g t e s = .ok (.lst (ds.filterMap f)) s := by
  obtain ⟨s', e1, h1⟩ := lcL_gen (g := g) (t := t) (e := e) f st s ds [] s hw0 (fun d hd => (H d hd).2) (by simpa using hl)
  unfold mLc
  rw [hi]
  show (lcL vs g t e ds [] s).bind _ = _
  rw [e1]
  show (Res.ok (D.lst ([] ++ ds.filterMap f)) (restD s s' vs) : Res D) = _
  have : restD s s' vs = s := by
    rcases h1 with rfl | ⟨d, hd, rfl⟩
    · exact hr0
    · exact (H d hd).1
  rw [this, List.nil_append]
theorem lcL_map {α : Type} {vs : List Nat} {g : D → En → Option En} {t : MT} {e : ME} (gd hd : α → D) (st : α → En) (s : En) : ∀ (l : List α) (acc : List D) (s0 : En), wipeD s0 vs = s → (∀ x ∈ l, wipeD (st x) vs = s ∧ g (gd x) s = some (st x) ∧ t (st x) = .ok true (st x) ∧ e (st x) = .ok (hd x) (st x)) → acc.length + l.length ≤ 1000 →
    ∃ s', lcL vs g t e (l.map gd) acc s0 = .ok (acc ++ l.map hd) s' ∧ (s' = s0 ∨ ∃ x ∈ l, s' = st x)
  | [], acc, s0, _, _, _ => ⟨s0, by simp [lcL], .inl rfl⟩
  | x :: l, acc, s0, h0, H, hl => by
    obtain ⟨hw, hg, e1, e2⟩ := H x (List.mem_cons_self ..)
    rw [List.length_cons] at hl
    have hsz : acc.length < sizeLine := Nat.lt_of_lt_of_le (show acc.length < 1000 by omega) (by rw [sizeLine_eq]; decide)
    obtain ⟨s', e3, h3⟩ := lcL_map (g := g) (t := t) (e := e) gd hd st s l (acc ++ [hd x]) (st x) hw (fun y hy => H y (List.mem_cons_of_mem x hy)) (by simp; omega)
    refine ⟨s', ?_, ?_⟩
    · rw [List.map_cons]
      unfold lcL
      rw [h0, hg]
      dsimp only
      rw [e1]
      show (noEx (e _)).bind _ = _
      rw [e2]
      show (if acc.length < sizeLine then _ else _) = _
      rw [if_pos hsz, e3]
      simp
    · rcases h3 with h3 | ⟨y, hy, h3⟩
      · exact .inr ⟨x, List.mem_cons_self .., h3⟩
      · exact .inr ⟨y, List.mem_cons_of_mem _ hy, h3⟩
/-- a comprehension over l.map gd, no test -/
theorem mLc_map {α : Type} {vs : List Nat} {it : En → Res (List D)} {g : D → En → Option En} {t : MT} {e : ME} {s : En} (l : List α) (gd hd : α → D) (st : α → En) (hi : it s = .ok (l.map gd) s) (hw0 : wipeD s vs = s) (hr0 : restD s s vs = s) (hl : l.length ≤ 1000)
    (H : ∀ x ∈ l, restD s (st x) vs = s ∧ wipeD (st x) vs = s ∧ g (gd x) s = some (st x) ∧ t (st x) = .ok true (st x) ∧ e (st x) = .ok (hd x) (st x)) : mLc vs it g t e s = .ok (.lst (l.map hd)) s := by
  obtain ⟨s', e1, h1⟩ := lcL_map (g := g) (t := t) (e := e) gd hd st s l [] s hw0 (fun x hx => (H x hx).2) (by simpa using hl)
  unfold mLc
  rw [hi]
  show (lcL vs g t e (l.map gd) [] s).bind _ = _
  rw [e1]
  show (Res.ok (D.lst ([] ++ l.map hd)) (restD s s' vs) : Res D) = _
  have : restD s s' vs = s := by
    rcases h1 with rfl | ⟨x, hx, rfl⟩
    · exact hr0
    · exact (H x hx).1
  rw [this, List.nil_append]
theorem augS_ok {tab : Str → Str → Bool} {i : Nat} {f : Int → Int → Int} {mk me : MP} {s : En} {c k c' : D} {a b : Int} (h1 : s[i]? = some (.b c)) (h2 : mk s = .ok k) (h3 : fAt c k = some (.int a)) (h4 : me s = .ok (.int b)) (h5 : stI c k (.int (f a b)) = some c') : mAugS tab i [] f mk me s = .nx (s.set i (.b c')) := by
  unfold mAugS
  have : atP tab i [] s = some (c, c) := by unfold atP; rw [h1]; cases c <;> rfl
  rw [this]
  dsimp only
  rw [h2]
  show (match fAt c k with | some (.int a) => _ | _ => _) = _
  rw [h3]
  dsimp only
  rw [h4]
  show (match stI c k (.int (f a b)) with | some c' => _ | none => _) = _
  rw [h5]
  show Out.nx (s.set i (.b (putD c [] c'))) = _
  have : putD c [] c' = c' := by cases c <;> rfl
  rw [this]
theorem stI_lst {ds : List D} {k : Int} {d : D} (h0 : 0 ≤ k) (h : k < ds.length) : stI (.lst ds) (.int k) d = some (.lst (ds.set k.toNat d)) := by
  show (ixN ds.length k).map _ = _
  have : ixN ds.length k = some k.toNat := by
    unfold ixN
    simp [h0]
    omega
  rw [this]; rfl
theorem set_range {α : Type} {n k : Nat} {f : Nat → α} {y : α} : ((List.range n).map f).set k y = (List.range n).map (fun h => if h = k then y else f h) := by
  apply List.ext_getElem
  · simp
  · intro i h1 h2
    rw [List.getElem_set]
    simp only [List.getElem_map, List.getElem_range]
    by_cases e : k = i
    · subst e; simp
    · rw [if_neg e, if_neg (fun z => e z.symm)]
theorem perm_sum {l l' : List Int} (h : l.Perm l') : l.sum = l'.sum := by
  induction h with
  | nil => rfl
  | cons x _ ih => simp [ih]
  | swap x y l => simp; omega
  | trans _ _ ih1 ih2 => exact ih1.trans ih2
theorem sum_map {l : List Int} : fSum [.lst (l.map D.int)] = some (.int l.sum) := by
  show (intsD (l.map D.int)).map _ = _
  rw [intsD_map]; rfl
def blsD (l : List Bool) : List D := l.map D.bl
theorem boolsD_map : ∀ l : List Bool, boolsD (l.map D.bl) = some l
  | [] => rfl
  | i :: l => by
    show (boolsD (l.map D.bl)).map (i :: ·) = _
    rw [boolsD_map l]; rfl
theorem all_map {l : List Bool} : fAll [.lst (l.map D.bl)] = some (.bl (l.all id)) := by
  show (boolsD (l.map D.bl)).map _ = _
  rw [boolsD_map]; rfl
end Mir
namespace Law
open PySem PySem.Spec PyProof.Rows L2 Mir
/-- a stream's datum -/
def sD (xs : List Int) : D := .tup (xs.map D.int)
theorem at_ints {xs : List Int} {k : Nat} (h : k < xs.length) : fAt (sD xs) (.int k) = some (.int (xs.getD k 0)) := by
  unfold sD
  rw [at_tup (by simpa using h)]
  simp [h]
theorem flow_ok {p : Plan} (hp : POk p) {xs : List Int} (hl : xs.length = p.L.length) {i j : Int} {k : Nat} (h : ixL p.L i j = some k) : outV (M_law_flow [p.d, sD xs, .int i, .int j]) = .ok (.int (flw p.L xs i j)) := by
  have ea := lat_ok hp (i := i) (j := j)
  rw [show atF (if j < i then j else i) (if j > i then j else i) 0 p.L = some k from h] at ea
  obtain ⟨hk, _⟩ := ix_some h
  have ek := at_ints (xs := xs) (k := k) (by omega)
  rw [flw_eq h]
  by_cases hij : j < i
  · rw [if_pos hij]
    refine fnB_rt ⟨[.d p.d, .d (sD xs), .d (.int i), .d (.int j), .d (.int (-(xs.getD k 0)))], ?_⟩
    show B_law_flow [.d p.d, .d (sD xs), .d (.int i), .d (.int j), .no] = _
    unfold B_law_flow
    refine sq (s1 := [.d p.d, .d (sD xs), .d (.int i), .d (.int j), .d (.int (xs.getD k 0))]) (by simp -implicitDefEqProofs only [ev_asg, ev_mP, ev_op2, ev_pCall, ev_psCons, ev_psNil, ev_pVar, List.getElem?_cons_zero, List.getElem?_cons_succ, ev_slD, ev_cons_ok, ev_binds_ok, List.length_cons, List.length_nil, if_true, ea, optI, ev_bind_ok, ek, ev_of_some, ev_put, ev_out, List.set_cons_succ, List.set_cons_zero]) ?_
    refine sq (s1 := [.d p.d, .d (sD xs), .d (.int i), .d (.int j), .d (.int (-(xs.getD k 0)))]) (by simp [hij]) (by simp)
  · rw [if_neg hij]
    refine fnB_rt ⟨[.d p.d, .d (sD xs), .d (.int i), .d (.int j), .d (.int (xs.getD k 0))], ?_⟩
    show B_law_flow [.d p.d, .d (sD xs), .d (.int i), .d (.int j), .no] = _
    unfold B_law_flow
    refine sq (s1 := [.d p.d, .d (sD xs), .d (.int i), .d (.int j), .d (.int (xs.getD k 0))]) (by simp [ea, optI, ek]) ?_
    refine sq (s1 := [.d p.d, .d (sD xs), .d (.int i), .d (.int j), .d (.int (xs.getD k 0))]) (by simp [hij]) (by simp)
theorem room_ok {p : Plan} (hp : POk p) {xs : List Int} (hl : xs.length = p.L.length) {i j : Int} {k : Nat} (h : ixL p.L i j = some k) : outV (M_law_room [p.d, sD xs, .int i, .int j]) = .ok (.int (rom p.L xs i j)) := by
  obtain ⟨hk, _⟩ := ix_some h
  have e1 := llets_ok hp (i := i) (j := j) h hk rfl
  have e2 := flow_ok hp hl h
  have e3 : rom p.L xs i j = (if j < i then (p.L[k]).u else (p.L[k]).t) - flw p.L xs i j := by unfold rom; rw [ltt_eq h hk]
  refine fnB_rt ⟨[.d p.d, .d (sD xs), .d (.int i), .d (.int j)], ?_⟩
  show B_law_room [.d p.d, .d (sD xs), .d (.int i), .d (.int j)] = _
  unfold B_law_room
  simp [e1, e2, e3]
/-! a tie's own place; what comes -/
theorem ix_at {p : Plan} (hp : POk p) {k : Nat} (hk : k < p.L.length) : ixL p.L (p.L[k]).a (p.L[k]).b = some k := by
  have ho := hp.t _ (List.getElem_mem hk)
  obtain ⟨g1, g2, g3, _⟩ := ho
  cases h : ixL p.L (p.L[k]).a (p.L[k]).b with
  | none =>
    have := atF_none _ _ h _ (List.getElem_mem hk)
    rw [if_neg (by omega), if_pos (by omega)] at this
    exact absurd ⟨rfl, rfl⟩ this
  | some q =>
    obtain ⟨hq, a1, b1⟩ := ix_some h
    rw [if_neg (by omega)] at a1
    rw [if_pos (by omega)] at b1
    have hc : (p.L[q]).code = (p.L[k]).code := by unfold Tie.code; rw [a1, b1]
    have hup := List.pairwise_iff_getElem.mp hp.up
    rcases Nat.lt_trichotomy q k with e | e | e
    · have := hup q k (by simpa using hq) (by simpa using hk) e
      simp at this; omega
    · rw [e]
    · have := hup k q (by simpa using hk) (by simpa using hq) e
      simp at this; omega
theorem flw_anti {L : List Tie} {xs : List Int} {i j : Int} (h : i ≠ j) : flw L xs j i = -(flw L xs i j) := by
  unfold flw
  rw [ix_comm]
  cases ixL L i j with
  | none => rfl
  | some k =>
    dsimp only
    by_cases q : i < j
    · rw [if_pos q, if_neg (by omega)]
    · rw [if_neg q, if_pos (by omega)]; omega
def netV (v : Tie → Int) (h : Int) : List Tie → Int
  | [] => 0
  | x :: L => (if x.b = h then v x else 0) - (if x.a = h then v x else 0) + netV v h L
theorem netT_map {v : Tie → Int} {h : Int} : ∀ L : List Tie, netT L (L.map v) h = netV v h L
  | [] => rfl
  | x :: L => by rw [List.map_cons, netT, netV, netT_map L]
theorem stream_map {p : Plan} (hp : POk p) {xs : List Int} (hl : xs.length = p.L.length) : xs = p.L.map fun x => flw p.L xs x.a x.b := by
  apply List.ext_getElem
  · simp [hl]
  · intro k h1 h2
    have hk : k < p.L.length := by omega
    have ho := (hp.t _ (List.getElem_mem hk)).2.1
    rw [List.getElem_map, flw_eq (ix_at hp hk), if_neg (by omega)]
    simp [h1]
theorem bes_sum {L : List Tie} {xs : List Int} {h : Int} : ∀ M : List Tie, (∀ x ∈ M, x.a < x.b) → ((bes1 M h).map fun o => flw L xs o h).sum + ((bes2 M h).map fun o => flw L xs o h).sum = netV (fun x => flw L xs x.a x.b) h M
  | [], _ => rfl
  | x :: M, hM => by
    have ih := bes_sum (L := L) (xs := xs) (h := h) M fun y hy => hM y (List.mem_cons_of_mem _ hy)
    have hx := hM x (List.mem_cons_self ..)
    unfold bes1 bes2 at *
    rw [List.filterMap_cons, List.filterMap_cons, netV]
    by_cases h1 : x.a = h
    · have h2 : ¬ x.b = h := by omega
      rw [if_pos h1, if_neg h2, if_neg h2, if_pos h1]
      simp only [List.map_cons, List.sum_cons]
      have := flw_anti (L := L) (xs := xs) (i := h) (j := x.b) (by omega)
      rw [h1]
      omega
    · by_cases h2 : x.b = h
      · rw [if_neg h1, if_pos h2, if_pos h2, if_neg h1]
        simp only [List.map_cons, List.sum_cons]
        rw [h2]
        omega
      · rw [if_neg h1, if_neg h2, if_neg h2, if_neg h1]
        simp only
        omega
theorem come_sum {p : Plan} (hp : POk p) {xs : List Int} (hl : xs.length = p.L.length) (h : Int) : ((srt (bes p.L h)).map fun o => flw p.L xs o h).sum = netT p.L xs h := by
  have e1 : ((srt (bes p.L h)).map fun o => flw p.L xs o h).sum = ((bes p.L h).map fun o => flw p.L xs o h).sum := perm_sum ((List.mergeSort_perm _ _).map _)
  have e2 : netT p.L xs h = netV (fun x => flw p.L xs x.a x.b) h p.L := by
    conv => lhs; rw [stream_map hp hl]
    exact netT_map p.L
  rw [e1, e2]
  unfold bes
  rw [List.map_append, List.sum_append]
  exact bes_sum p.L fun x hx => (hp.t x hx).2.1
theorem bes_ix {p : Plan} (hp : POk p) {i j : Int} (h : j ∈ srt (bes p.L i)) : ∃ k, ixL p.L i j = some k := by
  have := at_mem hp (i := i) (j := j)
  rw [decide_eq_true h] at this
  exact Option.isSome_iff_exists.mp this
theorem bes_len2 {L : List Tie} {h : Int} : (srt (bes L h)).length ≤ 2 * L.length := by
  unfold srt
  rw [List.length_mergeSort]
  unfold bes
  rw [List.length_append]
  have := bes1_len L h
  have := bes2_len L h
  omega
theorem come_ok {p : Plan} (hp : POk p) {xs : List Int} (hl : xs.length = p.L.length) {h : Int} : outV (M_law_come [p.d, sD xs, .int h]) = .ok (.int (netT p.L xs h)) := by
  have en := lnear_ok hp (h := h)
  have hlen := hp.len
  have hl2 := bes_len2 (L := p.L) (h := h)
  refine fnB_rt ⟨[.d p.d, .d (sD xs), .d (.int h), .no], ?_⟩
  show B_law_come [.d p.d, .d (sD xs), .d (.int h), .no] = _
  unfold B_law_come
  rw [ev_ret, ev_mFn, ev_aCons, ev_eO, ev_mFrz]
  rw [mLc_one (ds := (srt (bes p.L h)).map D.int) (fun d => match d with | .int o => some (.int (flw p.L xs o h)) | _ => none) (by simp [en]) rfl (by simp; omega) ?_]
  · have : ((srt (bes p.L h)).map D.int).filterMap (fun d => match d with | .int o => some (D.int (flw p.L xs o h)) | _ => none) = ((srt (bes p.L h)).map fun o => flw p.L xs o h).map D.int := by
      rw [List.filterMap_map, ← List.filterMap_eq_map, ← List.filterMap_eq_map, List.filterMap_filterMap]
      rfl
    rw [this]
    have hs : fSum [.lst (((srt (bes p.L h)).map fun o => flw p.L xs o h).map D.int)] = some (.int (netT p.L xs h)) := by rw [sum_map, come_sum hp hl]
    rw [List.map_map] at hs
    simp [hs]
  · intro d hd
    obtain ⟨o, ho, rfl⟩ := List.mem_map.mp hd
    obtain ⟨k, hk⟩ := bes_ix hp ho
    rw [ix_comm] at hk
    refine ⟨true, rfl, _, ?_, rfl⟩
    simp [flow_ok hp hl hk]
end Law
namespace Law
open PySem PySem.Spec PyProof.Rows L2 Mir
def netD (n : Nat) (g : Int → Int) : D := .lst ((List.range n).map fun (h : Nat) => D.int (g h))
theorem netD_at {n : Nat} {g : Int → Int} {k : Int} (h0 : 0 ≤ k) (h : k < n) : fAt (netD n g) (.int k) = some (.int (g k)) := by
  obtain ⟨m, rfl⟩ : ∃ m : Nat, k = m := ⟨k.toNat, by omega⟩
  unfold netD
  rw [at_lst (by simp; omega)]
  simp
theorem netD_set {n : Nat} {g : Int → Int} {k v : Int} (h0 : 0 ≤ k) (h : k < n) : stI (netD n g) (.int k) (.int v) = some (netD n fun h => if h = k then v else g h) := by
  unfold netD
  rw [stI_lst h0 (by simp; omega), set_range]
  congr 3
  funext m
  by_cases e : m = k.toNat
  · subst e; rw [if_pos rfl]; dsimp only; rw [if_pos (by omega)]
  · rw [if_neg e]; dsimp only; rw [if_neg (by omega)]
theorem net_loop {n : Nat} {w st : D} : ∀ (L : List Tie) (xs : List Int) (g : Int → Int) (x3 x4 : Sl), (∀ x ∈ L, 0 ≤ x.a ∧ x.a < x.b ∧ x.b < n) → xs.length = L.length →
    ∃ x3' x4' : Sl, forL (gUn (gOne (gSet 3) (gOne (gSet 4) (gNone)))) (mSeq (mAugS tabF0 2 [] (fun a b => a - b) (pFlat (pOp2 fAt (pVar 3) (pC (.int 0)))) (pVar 4))
    (mAugS tabF0 2 [] (fun a b => a + b) (pFlat (pOp2 fAt (pVar 3) (pC (.int 1)))) (pVar 4))) (zipD (L.map Tie.d) (xs.map D.int)) [.d w, .d st, .b (netD n g), x3, x4] = .nx [.d w, .d st, .b (netD n fun h => g h + netT L xs h), x3', x4']
  | [], [], g, x3, x4, _, _ => ⟨x3, x4, by simp [zipD, forL, netT]⟩
  | [], _ :: _, _, _, _, _, hl => by simp at hl
  | _ :: _, [], _, _, _, _, hl => by simp at hl
  | x :: L, v :: xs, g, x3, x4, hL, hl => by
    obtain ⟨a0, ab, bn⟩ := hL x (List.mem_cons_self ..)
    obtain ⟨y3, y4, e⟩ := net_loop L xs (fun h => if h = x.b then (if x.b = x.a then g x.a - v else g x.b) + v else if h = x.a then g x.a - v else g h) (.d x.d) (.d (.int v)) (fun y hy => hL y (List.mem_cons_of_mem _ hy)) (by simpa using hl)
    refine ⟨y3, y4, ?_⟩
    rw [List.map_cons, List.map_cons, zipD]
    refine forL_cons (s1 := [.d w, .d st, .b (netD n g), .d x.d, .d (.int v)]) (s2 := [.d w, .d st, .b (netD n (fun h => if h = x.b then (if x.b = x.a then g x.a - v else g x.b) + v else if h = x.a then g x.a - v else g h)), .d x.d, .d (.int v)]) rfl ?_ (e.trans ?_)
    · refine sq (s1 := [.d w, .d st, .b (netD n fun h => if h = x.a then g x.a - v else g h), .d x.d, .d (.int v)]) ?_ ?_
      · exact augS_ok (c := netD n g) (k := .int x.a) (a := g x.a) (b := v) rfl (by simp [tie0]) (netD_at a0 (by omega)) (by simp) (netD_set a0 (by omega))
      · exact augS_ok (c := netD n fun h => if h = x.a then g x.a - v else g h) (k := .int x.b) (a := if x.b = x.a then g x.a - v else g x.b) (b := v) rfl (by simp [tie1]) (netD_at (by omega) (by omega)) (by simp) (netD_set (by omega) (by omega))
    · congr 2
      simp only [List.cons.injEq, true_and, and_true]
      congr 2
      funext h
      rw [netT]
      by_cases h1 : h = x.b
      · subst h1
        rw [if_pos rfl, if_neg (by omega), if_pos rfl, if_neg (by omega)]; omega
      · by_cases h2 : h = x.a
        · subst h2
          rw [if_neg h1, if_pos rfl, if_neg (by omega), if_pos rfl]; omega
        · rw [if_neg h1, if_neg h2, if_neg (by omega), if_neg (by omega)]; omega
theorem net_ok {p : Plan} (hp : POk p) {xs : List Int} (hl : xs.length = p.L.length) : outV (M_net_of [webD p, sD xs]) = .ok (netD p.n.toNat (netT p.L xs)) := by
  have n2 := hp.n2
  have n10 := hp.n10
  obtain ⟨x3, x4, e⟩ := net_loop (n := p.n.toNat) (w := webD p) (st := sD xs) p.L xs (fun _ => 0) .no .no (fun x hx => by obtain ⟨g1, g2, g3, _⟩ := hp.t x hx; omega) hl
  refine fnB_rt ⟨[.d (webD p), .d (sD xs), .d (netD p.n.toNat (netT p.L xs)), x3, x4], ?_⟩
  show B_net_of [.d (webD p), .d (sD xs), .no, .no, .no] = _
  unfold B_net_of
  have e0 : mRep (aCons (eO (mP (pC (.int 0)))) (aNil)) (pFld tabF0 "many" (pVar 0)) [.d (webD p), .d (sD xs), .no, .no, .no] = .ok (netD p.n.toNat fun _ => 0) [.d (webD p), .d (sD xs), .no, .no, .no] := by
    unfold mRep
    rw [show (aCons (eO (mP (pC (.int 0)))) (aNil)) [.d (webD p), .d (sD xs), .no, .no, .no] = .ok [.d (.int 0)] [.d (webD p), .d (sD xs), .no, .no, .no] from rfl]
    rw [ev_rbind, show frzs [.d (.int 0)] = some [.int 0] from rfl]
    dsimp only
    rw [show pFld tabF0 "many" (pVar 0) [.d (webD p), .d (sD xs), .no, .no, .no] = .ok (.int p.n) from by rw [ev_pFld]; exact w_many]
    dsimp only
    rw [if_pos (by simp; omega)]
    have : (List.replicate p.n.toNat [D.int 0]).flatten = (List.range p.n.toNat).map fun (h : Nat) => D.int 0 := by
      generalize p.n.toNat = m
      induction m with
      | zero => rfl
      | succ m ih => rw [List.replicate_succ, List.flatten_cons, ih, List.range_succ_eq_map]; simp
    rw [this]; rfl
  refine sq (s1 := [.d (webD p), .d (sD xs), .b (netD p.n.toNat fun _ => 0), .no, .no]) (by rw [ev_asgB, e0]; rfl) ?_
  refine sq (for_eq (ds := zipD (p.L.map Tie.d) (xs.map D.int)) (s1 := [.d (webD p), .d (sD xs), .b (netD p.n.toNat fun _ => 0), .no, .no]) ?_ e) ?_
  · unfold iZipD
    rw [show (aCons (eO (mP (pFld tabF0 "ties" (pVar 0)))) (aCons (eO (mP (pVar 1))) (aNil))) [.d (webD p), .d (sD xs), .b (netD p.n.toNat fun _ => 0), .no, .no] = .ok [.d (.tup (p.L.map Tie.d)), .d (sD xs)] [.d (webD p), .d (sD xs), .b (netD p.n.toNat fun _ => 0), .no, .no] from by simp [w_ties]]
    rfl
  · show mRet (mP (pVar 2)) (frzS 2 [.d (webD p), .d (sD xs), .b (netD p.n.toNat fun h => 0 + netT p.L xs h), x3, x4]) = _
    simp only [Int.zero_add]
    rfl
theorem isI_int {d : D} (h : isI d = true) : ∃ i, d = .int i := by
  cases d with
  | int i => exact ⟨i, rfl⟩
  | _ => cases h
theorem sizedG {ds : List D} {m n : Int} : outV (M_is_sized [.tup ds, .int m, .int n]) = .ok (.bl (decide (m ≤ ds.length) && decide ((ds.length : Int) ≤ n))) := by
  refine fnB_rt ?_
  have e1 := i_tuple (d := .tup ds) trivial
  by_cases h1 : m ≤ ds.length <;> by_cases h2 : (ds.length : Int) ≤ n <;> simp [B_is_sized, args, ev_and, e1, isT, h1, h2]
theorem sizedGN {d : D} (h : Gd d) (hn : isT d = false) {m n : Int} : outV (M_is_sized [d, .int m, .int n]) = .ok (.bl false) := by
  refine fnB_rt ?_
  have e1 := i_tuple h
  simp [B_is_sized, args, ev_and, e1, hn]
/-- within what is let, of any things -/
def inB : List Tie → List D → Bool
  | x :: L, d :: ds => inR d (-x.u) x.t && inB L ds
  | [], [] => true
  | _, _ => false
def consB (p : Plan) (xs : List Int) : Bool := (List.range p.n.toNat).all fun (h : Nat) => decide ((h : Int) = p.s) || (decide ((h : Int) = p.m) || decide (netT p.L xs h = 0))
def strB (p : Plan) : D → Bool
  | .tup ds => inB p.L ds && (match intsD ds with
    | some xs => consB p xs
    | none => false)
  | _ => false
theorem inB_ints : ∀ {L : List Tie} {ds : List D}, inB L ds = true → ∃ xs : List Int, ds = xs.map D.int ∧ xs.length = L.length
  | [], [], _ => ⟨[], rfl, rfl⟩
  | [], _ :: _, h => by cases h
  | _ :: _, [], h => by cases h
  | x :: L, d :: ds, h => by
    rw [inB, Bool.and_eq_true] at h
    obtain ⟨i, rfl, _⟩ := inR_int h.1
    obtain ⟨xs, rfl, hl⟩ := inB_ints h.2
    exact ⟨i :: xs, rfl, by simp [hl]⟩
theorem inB_len : ∀ {L : List Tie} {ds : List D}, ds.length ≠ L.length → inB L ds = false
  | [], [], h => absurd rfl h
  | [], _ :: _, _ => rfl
  | _ :: _, [], _ => rfl
  | x :: L, d :: ds, h => by
    rw [inB, inB_len (L := L) (ds := ds) (by simpa using h)]; simp
theorem inB_bnd : ∀ {L : List Tie} {xs : List Int}, inB L (xs.map D.int) = true ↔ xs.length = L.length ∧ ∀ k (h : k < L.length), -(L[k]).u ≤ xs.getD k 0 ∧ xs.getD k 0 ≤ (L[k]).t
  | [], [] => by simp [inB]
  | [], _ :: _ => by simp [inB]
  | _ :: _, [] => by simp [inB]
  | x :: L, v :: xs => by
    rw [List.map_cons, inB, Bool.and_eq_true, inB_bnd (L := L) (xs := xs)]
    constructor
    · rintro ⟨h1, h2, h3⟩
      refine ⟨by simp [h2], fun k hk => ?_⟩
      cases k with
      | zero => simpa [inR] using h1
      | succ k => simpa using h3 k (by simpa using hk)
    · rintro ⟨h2, h3⟩
      have h0 : -x.u ≤ v ∧ v ≤ x.t := h3 0 (Nat.succ_pos _)
      exact ⟨by simpa [inR] using h0, by simpa using h2, fun k hk => h3 (k + 1) (Nat.succ_lt_succ hk)⟩
theorem strB_ok {p : Plan} (hp : POk p) {xs : List Int} (h : SOk p xs) : strB p (sD xs) = true := by
  unfold strB sD
  dsimp only
  rw [inB_bnd.mpr ⟨h.len, fun k hk => ⟨h.lo k hk, h.hi k hk⟩⟩, intsD_map]
  show consB p xs = true
  unfold consB
  rw [List.all_eq_true]
  intro k hk
  have hk := List.mem_range.mp hk
  have n2 := hp.n2
  by_cases h1 : (k : Int) = p.s
  · simp [h1]
  · by_cases h2 : (k : Int) = p.m
    · simp [h2]
    · have := h.con k (by omega) (by omega) h1 h2
      simp [this]
theorem all_int {ds : List D} (h : ds.all isI = true) : ∃ xs : List Int, ds = xs.map D.int := by
  induction ds with
  | nil => exact ⟨[], rfl⟩
  | cons d ds ih =>
    rw [List.all_cons, Bool.and_eq_true] at h
    obtain ⟨i, rfl⟩ := isI_int h.1
    obtain ⟨xs, rfl⟩ := ih h.2
    exact ⟨i :: xs, rfl⟩
theorem inB_allI {L : List Tie} {ds : List D} (h : ds.all isI = false) : inB L ds = false := by
  cases hb : inB L ds with
  | false => rfl
  | true =>
    obtain ⟨xs, rfl, _⟩ := inB_ints hb
    have : (xs.map D.int).all isI = true := by rw [List.all_eq_true]; intro d hd; obtain ⟨i, _, rfl⟩ := List.mem_map.mp hd; rfl
    rw [this] at h; cases h
theorem zip_bnd : ∀ (L : List Tie) (xs : List Int), xs.length = L.length → ((L.zip xs).map fun q => decide (-q.1.u ≤ q.2) && decide (q.2 ≤ q.1.t)).all id = inB L (xs.map D.int)
  | [], [], _ => rfl
  | [], _ :: _, h => by simp at h
  | _ :: _, [], h => by simp at h
  | x :: L, v :: xs, h => by
    have ih := zip_bnd L xs (by simpa using h)
    rw [List.zip_cons_cons, List.map_cons, List.all_cons, ih, List.map_cons, inB]
    rfl
theorem zipD_map : ∀ (L : List Tie) (xs : List Int), zipD (L.map Tie.d) (xs.map D.int) = (L.zip xs).map fun q => .tup [q.1.d, .int q.2]
  | [], _ => by simp [zipD]
  | _ :: _, [] => by simp [zipD]
  | x :: L, v :: xs => by rw [List.map_cons, List.map_cons, zipD, zipD_map L xs]; rfl
theorem enumD_map {g : Int → Int} : ∀ (n k : Nat), enumD k ((List.range' k n).map fun (h : Nat) => D.int (g h)) = (List.range' k n).map fun (h : Nat) => .tup [.int h, .int (g h)]
  | 0, k => rfl
  | n + 1, k => by rw [List.range'_succ, List.map_cons, List.map_cons, enumD, enumD_map n (k + 1)]
theorem in2 {i a b : Int} {neg : Bool} : fInF neg (.int i) (.tup [.int a, .int b]) = some (.bl (xor neg (decide (i = a) || decide (i = b)))) := by
  have := inF_ints (neg := neg) (j := i) (l := [a, b])
  simp at this
  simpa using this
theorem all_mapF {α : Type} {f : α → Bool} {l : List α} : fAll [.lst (l.map fun x => D.bl (f x))] = some (.bl (l.all f)) := by
  have := all_map (l := l.map f)
  rw [List.map_map, List.all_map] at this
  exact this
theorem prog_str {p : Plan} (hp : POk p) {d : D} (hd : Part d) : outV (M_is_right_stream [webD p, d]) = .ok (.bl (strB p d)) := by
  have n2 := hp.n2
  have n10 := hp.n10
  have hplen := hp.len
  refine fnB_rt ?_
  show ∃ s, B_is_right_stream [.d (webD p), .d d, .no, .no, .no, .no, .no] = _
  unfold B_is_right_stream
  by_cases hT : isT d = true
  · cases d with
    | tup ds =>
      obtain ⟨dl, dg⟩ := hd.i ds rfl
      by_cases hlen : ds.length = p.L.length
      · have e1 : outV (M_is_sized [.tup ds, .int p.L.length, .int p.L.length]) = .ok (.bl true) := by rw [sizedG]; simp [hlen]
        have c1 : mLc [2] (iSeq (mP (pVar 1))) (gSet 2) mYes (mP (pCall 1 M_is_integer (psCons (pVar 2) (psNil)))) [.d (webD p), .d (.tup ds), .no, .no, .no, .no, .no] = .ok (.lst (ds.map fun d => D.bl (isI d))) [.d (webD p), .d (.tup ds), .no, .no, .no, .no, .no] := by
          rw [mLc_one (ds := ds) (fun d => some (.bl (isI d))) (by simp) rfl (by omega) ?_]
          · rw [← List.filterMap_eq_map]; rfl
          · intro x hx
            refine ⟨true, rfl, _, ?_, rfl⟩
            simp [isint (dg x hx).1]
        have hA := all_mapF (f := isI) (l := ds)
        cases hI : ds.all isI with
        | false =>
          rw [hI] at hA
          rw [show strB p (.tup ds) = false from by unfold strB; dsimp only; rw [inB_allI hI]; rfl]
          refine ⟨[.d (webD p), .d (.tup ds), .no, .no, .no, .no, .no], sq_rt ?_⟩
          simp [w_ties, e1, c1, hA]
        | true =>
          rw [hI] at hA
          have s1 : (mIf (mOr (mNot (tPu (pCall 3 M_is_sized (psCons (pVar 1) (psCons (pFn fLen (psCons (pFld tabF0 "ties" (pVar 0)) (psNil))) (psCons (pFn fLen (psCons (pFld tabF0 "ties" (pVar 0)) (psNil))) (psNil))))))) (mNot (mTest (mFn fAll (aCons (eO (mFrz (mLc [2] (iSeq (mP (pVar 1))) (gSet 2) (mYes) (mP (pCall 1 M_is_integer (psCons (pVar 2) (psNil))))))) (aNil)))))) (mRet (mP (pC (.bl false)))) (mNext)) [.d (webD p), .d (.tup ds), .no, .no, .no, .no, .no] = .nx [.d (webD p), .d (.tup ds), .no, .no, .no, .no, .no] := by
            simp [w_ties, e1, c1, hA]
          obtain ⟨xs, rfl⟩ := all_int hI
          have hl : xs.length = p.L.length := by simpa using hlen
          have zl : (p.L.zip xs).length ≤ 300 := by rw [List.length_zip]; omega
          have c2 : mLc [3, 2] (iZipD (aCons (eO (mP (pFld tabF0 "ties" (pVar 0)))) (aCons (eO (mP (pVar 1))) (aNil)))) (gUn (gOne (gSet 3) (gOne (gSet 2) (gNone)))) (mYes) (mP (pChain fLeA fLeA (pOp1 fNeg (pOp2 fAt (pVar 3) (pC (.int 3)))) (pVar 2) (pOp2 fAt (pVar 3) (pC (.int 2))))) [.d (webD p), .d (.tup (xs.map D.int)), .no, .no, .no, .no, .no] = .ok (.lst ((p.L.zip xs).map fun q => D.bl (decide (-q.1.u ≤ q.2) && decide (q.2 ≤ q.1.t)))) [.d (webD p), .d (.tup (xs.map D.int)), .no, .no, .no, .no, .no] := by
            refine mLc_map (p.L.zip xs) (fun q => .tup [q.1.d, .int q.2]) (fun q => D.bl (decide (-q.1.u ≤ q.2) && decide (q.2 ≤ q.1.t))) (fun q => [.d (webD p), .d (.tup (xs.map D.int)), .d (.int q.2), .d q.1.d, .no, .no, .no]) ?a rfl rfl (by omega) ?c
            case a =>
              unfold iZipD
              rw [show (aCons (eO (mP (pFld tabF0 "ties" (pVar 0)))) (aCons (eO (mP (pVar 1))) (aNil))) [.d (webD p), .d (.tup (xs.map D.int)), .no, .no, .no, .no, .no] = .ok [.d (.tup (p.L.map Tie.d)), .d (.tup (xs.map D.int))] [.d (webD p), .d (.tup (xs.map D.int)), .no, .no, .no, .no, .no] from by simp [w_ties]]
              rw [← zipD_map]; rfl
            case c =>
              rintro ⟨x, v⟩ _
              refine ⟨rfl, rfl, rfl, rfl, ?_⟩
              by_cases h1 : -x.u ≤ v <;> simp [tie3, tie2, h1]
          have hB := all_mapF (f := fun q : Tie × Int => decide (-q.1.u ≤ q.2) && decide (q.2 ≤ q.1.t)) (l := p.L.zip xs)
          have hz := zip_bnd p.L xs hl
          rw [List.all_map] at hz
          rw [show (p.L.zip xs).all (fun q : Tie × Int => decide (-q.1.u ≤ q.2) && decide (q.2 ≤ q.1.t)) = inB p.L (xs.map D.int) from hz] at hB
          cases hb : inB p.L (xs.map D.int) with
          | false =>
            rw [hb] at hB
            rw [show strB p (.tup (xs.map D.int)) = false from by unfold strB; dsimp only; rw [hb]; rfl]
            exact ⟨[.d (webD p), .d (.tup (xs.map D.int)), .no, .no, .no, .no, .no], sq s1 (sq_rt (by simp [c2, hB]))⟩
          | true =>
            rw [hb] at hB
            rw [show strB p (.tup (xs.map D.int)) = consB p xs from by unfold strB; dsimp only; rw [hb, intsD_map]; rfl]
            have en := net_ok hp hl
            unfold sD at en
            have c3 : mLc [5, 6] (iEnumD (aCons (eO (mP (pCall 2 M_net_of (psCons (pVar 0) (psCons (pVar 1) (psNil)))))) (aNil))) (gUn (gOne (gSet 5) (gOne (gSet 6) (gNone)))) (mYes) (mP (pOr (pOp2 (fInF false) (pVar 5) (pVar 4)) (pOp2 (eqD false) (pVar 6) (pC (.int 0))))) [.d (webD p), .d (.tup (xs.map D.int)), .no, .no, .d (.tup [.int p.s, .int p.m]), .no, .no] = .ok (.lst ((List.range p.n.toNat).map fun (h : Nat) => D.bl (decide ((h : Int) = p.s) || (decide ((h : Int) = p.m) || decide (netT p.L xs h = 0))))) [.d (webD p), .d (.tup (xs.map D.int)), .no, .no, .d (.tup [.int p.s, .int p.m]), .no, .no] := by
              refine mLc_map (List.range p.n.toNat) (fun (h : Nat) => .tup [.int h, .int (netT p.L xs h)]) (fun (h : Nat) => D.bl (decide ((h : Int) = p.s) || (decide ((h : Int) = p.m) || decide (netT p.L xs h = 0)))) (fun (h : Nat) => [.d (webD p), .d (.tup (xs.map D.int)), .no, .no, .d (.tup [.int p.s, .int p.m]), .d (.int h), .d (.int (netT p.L xs h))]) ?a rfl rfl (by simp; omega) ?c
              case a =>
                unfold iEnumD
                rw [show (aCons (eO (mP (pCall 2 M_net_of (psCons (pVar 0) (psCons (pVar 1) (psNil)))))) (aNil)) [.d (webD p), .d (.tup (xs.map D.int)), .no, .no, .d (.tup [.int p.s, .int p.m]), .no, .no] = .ok [.d (netD p.n.toNat (netT p.L xs))] [.d (webD p), .d (.tup (xs.map D.int)), .no, .no, .d (.tup [.int p.s, .int p.m]), .no, .no] from by simp [en]]
                rw [List.range_eq_range', ← enumD_map]
                unfold netD
                rw [List.range_eq_range']; rfl
              case c =>
                intro h _
                refine ⟨rfl, rfl, rfl, rfl, ?_⟩
                by_cases h1 : (h : Int) = p.s
                · simp [ev_or, in2, h1]
                · by_cases h2 : (h : Int) = p.m
                  · simp [ev_or, in2, h1, h2]
                  · simp [ev_or, in2, h1, h2]
            have hC := all_mapF (f := fun h : Nat => decide ((h : Int) = p.s) || (decide ((h : Int) = p.m) || decide (netT p.L xs h = 0))) (l := List.range p.n.toNat)
            refine ⟨[.d (webD p), .d (.tup (xs.map D.int)), .no, .no, .d (.tup [.int p.s, .int p.m]), .no, .no], sq s1 (sq (s1 := [.d (webD p), .d (.tup (xs.map D.int)), .no, .no, .no, .no, .no]) (by simp [c2, hB]) (sq (s1 := [.d (webD p), .d (.tup (xs.map D.int)), .no, .no, .d (.tup [.int p.s, .int p.m]), .no, .no]) (by simp [w_spring, w_mouth, szTup_ok]) ?_))⟩
            simp only [ev_ret, ev_mFn, ev_aCons, ev_eO, ev_mFrz, c3, ev_rbind, frzB_lst, ev_aNil, ev_fills_d, ev_fills_nil, Option.map_some, ev_fillsR, hC, ev_ret_some, ev_out]
            rfl
      · have e1 : outV (M_is_sized [.tup ds, .int p.L.length, .int p.L.length]) = .ok (.bl false) := by
          rw [sizedG]
          have : (decide ((p.L.length : Int) ≤ ds.length) && decide ((ds.length : Int) ≤ p.L.length)) = false := by
            rw [Bool.and_eq_false_iff, decide_eq_false_iff_not, decide_eq_false_iff_not]; omega
          rw [this]
        rw [show strB p (.tup ds) = false from by unfold strB; dsimp only; rw [inB_len hlen]; rfl]
        exact ⟨[.d (webD p), .d (.tup ds), .no, .no, .no, .no, .no], sq_rt (by simp [w_ties, e1])⟩
    | _ => cases hT
  · rw [Bool.not_eq_true] at hT
    have e1 := sizedGN hd.g hT (m := p.L.length) (n := p.L.length)
    rw [show strB p d = false from by cases d <;> first | rfl | cases hT]
    exact ⟨[.d (webD p), .d d, .no, .no, .no, .no, .no], sq_rt (by simp [w_ties, e1])⟩
end Law
namespace Law
open PySem PySem.Spec PyProof.Rows L2 Mir
theorem loopS {p : Plan} {ds : List D} (hg : ∀ x ∈ ds, Gds x) (hl : ds.length = p.L.length) {x3 : Sl} : ∀ (m k : Nat), k + m = ds.length → ∀ x2 : Sl, ∃ x2' : Sl, forL (gSet 2) (mIf (mNot (tPu (pCall 3 M_law_is_within (psCons (pOp2 fAt (pVar 1) (pVar 2)) (psCons (pOp1 fNeg (pOp2 fAt (pOp2 fAt (pOp2 fAt (pVar 0) (pC (.int 1))) (pVar 2)) (pC (.int 3)))) (psCons (pOp2 fAt (pOp2 fAt (pOp2 fAt (pVar 0) (pC (.int 1))) (pVar 2)) (pC (.int 2))) (psNil))))))) (mRet (mP (pC (.bl false)))) (mNext)) ((List.range' k m).map fun (i : Nat) => D.int i) [.d p.d, .d (.tup ds), x2, x3] =
      match inB (p.L.drop k) (ds.drop k) with
      | true => .nx [.d p.d, .d (.tup ds), x2', x3]
      | false => .rt (.bl false) [.d p.d, .d (.tup ds), x2', x3]
  | 0, k, hk, x2 => ⟨x2, by rw [List.drop_eq_nil_of_le (by omega), List.drop_eq_nil_of_le (by omega)]; rfl⟩
  | m + 1, k, hk, x2 => by
    have h1 : k < ds.length := by omega
    have h2 : k < p.L.length := by omega
    have ek : fAt (.tup (p.L.map Tie.d)) (.int k) = some (p.L[k]).d := by
      rw [at_tup (by simpa using h2)]; simp
    have ed := at_tup h1
    have e1 := lisin (hg _ (List.getElem_mem h1)).1 (lo := -(p.L[k]).u) (hi := (p.L[k]).t)
    rw [List.range'_succ, List.map_cons, List.drop_eq_getElem_cons h1, List.drop_eq_getElem_cons h2, inB]
    cases hi : inR ds[k] (-(p.L[k]).u) (p.L[k]).t with
    | false =>
      rw [hi] at e1
      refine ⟨.d (.int k), forL_rt (s1 := [.d p.d, .d (.tup ds), .d (.int k), x3]) rfl ?_⟩
      simp [pf1, ek, ed, tie3, tie2, e1]
    | true =>
      rw [hi] at e1
      obtain ⟨x2', ih⟩ := loopS hg hl (x3 := x3) m (k + 1) (by omega) (.d (.int k))
      refine ⟨x2', forL_cons (s1 := [.d p.d, .d (.tup ds), .d (.int k), x3]) (s2 := [.d p.d, .d (.tup ds), .d (.int k), x3]) rfl ?_ (by rw [Bool.true_and]; exact ih)⟩
      simp [pf1, ek, ed, tie3, tie2, e1]
def fBad (p : Plan) (xs : List Int) : D → Option D
  | .int h => if (h ≠ p.s ∧ h ≠ p.m) ∧ netT p.L xs h ≠ 0 then some (.int h) else none
  | _ => none
theorem cons_count {p : Plan} (hp : POk p) {xs : List Int} : decide (((((rangeD 0 p.n).filterMap (fBad p xs)).length : Nat) : Int) = 0) = consB p xs := by
  have n2 := hp.n2
  rw [mem_range_int (by omega) hp.n10, Bool.eq_iff_iff, decide_eq_true_iff]
  unfold consB
  rw [List.all_eq_true]
  constructor
  · intro h k hk
    have h0 : ((List.range p.n.toNat).map fun (i : Nat) => D.int i).filterMap (fBad p xs) = [] := List.eq_nil_of_length_eq_zero (by omega)
    rw [List.filterMap_eq_nil_iff] at h0
    have := h0 (.int k) (List.mem_map.mpr ⟨k, hk, rfl⟩)
    unfold fBad at this
    dsimp only at this
    by_cases h1 : (k : Int) = p.s
    · simp [h1]
    · by_cases h2 : (k : Int) = p.m
      · simp [h2]
      · by_cases h3 : netT p.L xs k = 0
        · simp [h3]
        · rw [if_pos ⟨⟨h1, h2⟩, h3⟩] at this; cases this
  · intro h
    have h0 : ((List.range p.n.toNat).map fun (i : Nat) => D.int i).filterMap (fBad p xs) = [] := by
      rw [List.filterMap_eq_nil_iff]
      intro d hd
      obtain ⟨k, hk, rfl⟩ := List.mem_map.mp hd
      have := h k hk
      unfold fBad
      dsimp only
      simp only [Bool.or_eq_true, decide_eq_true_eq] at this
      rw [if_neg]
      rintro ⟨⟨q1, q2⟩, q3⟩
      rcases this with e | e | e
      · exact q1 e
      · exact q2 e
      · exact q3 e
    rw [h0]; rfl
theorem pf0 {p : Plan} : fAt p.d (.int 0) = some (.int p.n) := rfl
theorem pf2 {p : Plan} : fAt p.d (.int 2) = some (.int p.s) := rfl
theorem pf3 {p : Plan} : fAt p.d (.int 3) = some (.int p.m) := rfl
theorem pfT {p : Plan} : fSl p.d (some 2) none = some (.tup [.int p.s, .int p.m]) := rfl
theorem law_str {p : Plan} (hp : POk p) {d : D} (hd : Part d) : outV (M_law_is_stream [p.d, d]) = .ok (.bl (strB p d)) := by
  have n2 := hp.n2
  have n10 := hp.n10
  have hplen := hp.len
  have e0 := i_tuple hd.g
  refine fnB_rt ?_
  show ∃ s, B_law_is_stream [.d p.d, .d d, .no, .no] = _
  unfold B_law_is_stream
  by_cases hT : isT d = true
  · rw [hT] at e0
    cases d with
    | tup ds =>
      obtain ⟨dl, dg⟩ := hd.i ds rfl
      by_cases hlen : ds.length = p.L.length
      · have hI : ((ds.length : Int) = (p.L.length : Int)) := by omega
        have s1 : (mIf (mOr (mNot (tPu (pIsi (isi_tuple) (pVar 1)))) (tPu (pOp2 (eqD true) (pFn fLen (psCons (pVar 1) (psNil))) (pFn fLen (psCons (pOp2 fAt (pVar 0) (pC (.int 1))) (psNil)))))) (mRet (mP (pC (.bl false)))) (mNext)) [.d p.d, .d (.tup ds), .no, .no] = .nx [.d p.d, .d (.tup ds), .no, .no] := by
          simp [e0, pf1, hI]
        obtain ⟨x2, el⟩ := loopS (p := p) dg hlen (x3 := .no) ds.length 0 (by simp) .no
        rw [← List.range_eq_range', List.drop_zero, List.drop_zero] at el
        have it : iRange1 (aCons (eO (mP (pFn fLen (psCons (pVar 1) (psNil))))) (aNil)) [.d p.d, .d (.tup ds), .no, .no] = .ok ((List.range ds.length).map fun (i : Nat) => D.int i) [.d p.d, .d (.tup ds), .no, .no] := by
          simp -implicitDefEqProofs; exact rg_len (by omega)
        cases hb : inB p.L ds with
        | false =>
          rw [hb] at el
          rw [show strB p (.tup ds) = false from by unfold strB; dsimp only; rw [hb]; rfl]
          exact ⟨_, sq s1 (sq_rt (for_eq it el))⟩
        | true =>
          rw [hb] at el
          obtain ⟨xs, rfl, hl⟩ := inB_ints hb
          rw [show strB p (.tup (xs.map D.int)) = consB p xs from by unfold strB; dsimp only; rw [hb, intsD_map]; rfl]
          refine ⟨[.d p.d, .d (.tup (xs.map D.int)), x2, .no], sq s1 (sq (for_eq it el) ?_)⟩
          have hc : mLc [3] (iRange1 (aCons (eO (mP (pOp2 fAt (pVar 0) (pC (.int 0))))) (aNil))) (gSet 3) (mAnd (tPu (pOp2 (fInF true) (pVar 3) (pSl fSl (pVar 0) (pPart (pC (.int 2))) (pNoPart)))) (tPu (pOp2 (eqD true) (pCall 3 M_law_come (psCons (pVar 0) (psCons (pVar 1) (psCons (pVar 3) (psNil))))) (pC (.int 0))))) (mP (pVar 3)) [.d p.d, .d (.tup (xs.map D.int)), x2, .no] = .ok (.lst ((rangeD 0 p.n).filterMap (fBad p xs))) [.d p.d, .d (.tup (xs.map D.int)), x2, .no] := by
            refine mLc_one (ds := rangeD 0 p.n) (fBad p xs) ?_ rfl (by rw [rangeD_length]; omega) ?_
            · simp -implicitDefEqProofs [pf0]; exact rgR1_ok (by omega) (Int.lt_of_le_of_lt n10 (by decide))
            · intro d hd
              obtain ⟨h, rfl, _, _⟩ := mem_rangeD hd
              have ec := come_ok hp hl (h := h)
              unfold sD at ec
              by_cases h1 : h = p.s
              · refine ⟨false, ?_, ?_⟩
                · simp [pfT, in2, h1]
                · show (if _ then _ else _) = _; rw [if_neg (fun z => z.1.1 h1)]
              · by_cases h2 : h = p.m
                · refine ⟨false, ?_, ?_⟩
                  · simp [pfT, in2, h1, h2]
                  · show (if _ then _ else _) = _; rw [if_neg (fun z => z.1.2 h2)]
                · by_cases h3 : netT p.L xs h = 0
                  · refine ⟨false, ?_, ?_⟩
                    · simp [pfT, in2, h1, h2, ec, h3]
                    · show (if _ then _ else _) = _; rw [if_neg (fun z => z.2 h3)]
                  · refine ⟨true, ?_, _, rfl, ?_⟩
                    · simp [pfT, in2, h1, h2, ec, h3]
                    · show (if _ then _ else _) = _; rw [if_pos ⟨⟨h1, h2⟩, h3⟩]
          have hcc := cons_count hp (xs := xs)
          obtain ⟨M, eM⟩ : ∃ M, M = (rangeD 0 p.n).filterMap (fBad p xs) := ⟨_, rfl⟩
          rw [← eM] at hc hcc
          simp only [ev_ret, ev_mOp2, ev_mFn, ev_aCons, ev_eO, ev_mFrz, hc, ev_rbind, frzB_lst, ev_aNil, ev_fills_d, ev_fills_nil, Option.map_some, ev_fillsR, v_lenL, ev_ret_some, ev_mP, ev_pC, ev_put, ev_fill_d, ev_fillR, v_eqI, ev_out, hcc]
      · have hI : ¬ ((ds.length : Int) = (p.L.length : Int)) := by omega
        rw [show strB p (.tup ds) = false from by unfold strB; dsimp only; rw [inB_len hlen]; rfl]
        exact ⟨[.d p.d, .d (.tup ds), .no, .no], sq_rt (by simp [e0, pf1, hI])⟩
    | _ => cases hT
  · rw [Bool.not_eq_true] at hT
    rw [hT] at e0
    rw [show strB p d = false from by cases d <;> first | rfl | cases hT]
    exact ⟨[.d p.d, .d d, .no, .no], sq_rt (by simp [e0])⟩
theorem is_stream_ok {p : Plan} (hp : POk p) {d : D} (hd : Part d) : outV (M_is_stream [webD p, d]) = .ok (.bl (strB p d)) := by
  refine fnB_rt ⟨[.d (webD p), .d d], ?_⟩
  show B_is_stream [.d (webD p), .d d] = _
  unfold B_is_stream
  simp [prog_str hp hd]
theorem part_s {xs : List Int} (h : xs.length < 300) : Part (sD xs) := part_tup (by simpa using h) fun d hd => by
  obtain ⟨i, _, rfl⟩ := List.mem_map.mp hd
  exact flat_gds rfl
theorem check_ok {p : Plan} (hp : POk p) {xs : List Int} (hs : SOk p xs) : outV (M_check_stream [webD p, sD xs]) = .ok .non := by
  have e := prog_str hp (part_s (xs := xs) (by have := hs.len; have := hp.len; omega))
  rw [strB_ok hp hs] at e
  have : B_check_stream [.d (webD p), .d (sD xs)] = .nx [.d (webD p), .d (sD xs)] := by
    unfold B_check_stream
    simp [e]
  show outV (fnB 2 [] B_check_stream [webD p, sD xs]) = _
  rw [fnB_nx (n := 2) (m := []) (ds := [webD p, sD xs]) this]
  rfl
theorem worth_ok {p : Plan} (hp : POk p) {xs : List Int} (hs : SOk p xs) : outV (M_worth [webD p, sD xs]) = .ok (.int (netT p.L xs p.m)) := by
  have e1 := check_ok hp hs
  have en := net_ok hp hs.len
  have m0 := hp.m0
  have m1 := hp.m1
  have e2 : outV (M_worth_of [webD p, sD xs]) = .ok (.int (netT p.L xs p.m)) := by
    refine fnB_rt ⟨[.d (webD p), .d (sD xs)], ?_⟩
    show B_worth_of [.d (webD p), .d (sD xs)] = _
    unfold B_worth_of
    simp [en, w_mouth, netD_at m0 (show p.m < (p.n.toNat : Int) by omega)]
  refine fnB_rt ⟨[.d (webD p), .d (sD xs)], ?_⟩
  show B_worth [.d (webD p), .d (sD xs)] = _
  unfold B_worth
  exact sq (s1 := [.d (webD p), .d (sD xs)]) (by simp [e1]) (by simp [e2])
theorem lworth_ok {p : Plan} (hp : POk p) {xs : List Int} (hl : xs.length = p.L.length) : outV (M_law_worth [p.d, sD xs]) = .ok (.int (netT p.L xs p.m)) := by
  refine fnB_rt ⟨[.d p.d, .d (sD xs)], ?_⟩
  show B_law_worth [.d p.d, .d (sD xs)] = _
  unfold B_law_worth
  simp [pf3, come_ok hp hl]
theorem loopU {w st : D} {i j : Int} : ∀ (L : List Tie) (xs : List Int) (k q : Nat) (x4 x5 : Sl), (∀ x ∈ L, x.a < x.b) → xs.length = L.length → atF (if j < i then j else i) (if j > i then j else i) k L = some q →
    ∃ x4' x5' : Sl, forL (gUn (gOne (gSet 4) (gOne (gSet 5) (gNone)))) (mSeq (mIf (tPu (pOp2 (eqD false) (pSl fSl (pVar 4) (pNoPart) (pPart (pC (.int 2)))) (pTup (psCons (pVar 2) (psCons (pVar 3) (psNil)))))) (mRet (mP (pVar 5))) (mNext))
    (mIf (tPu (pOp2 (eqD false) (pSl fSl (pVar 4) (pNoPart) (pPart (pC (.int 2)))) (pTup (psCons (pVar 3) (psCons (pVar 2) (psNil)))))) (mRet (mP (pOp1 fNeg (pVar 5)))) (mNext))) (zipD (L.map Tie.d) (xs.map D.int)) [.d w, .d st, .d (.int i), .d (.int j), x4, x5] = .rt (.int (if j < i then -(xs.getD (q - k) 0) else xs.getD (q - k) 0)) [.d w, .d st, .d (.int i), .d (.int j), x4', x5']
  | [], _, _, _, _, _, _, _, h => by cases h
  | _ :: _, [], _, _, _, _, _, hl, _ => by simp at hl
  | x :: L, v :: xs, k, q, x4, x5, hL, hl, h => by
    have hx := hL x (List.mem_cons_self ..)
    rw [List.map_cons, List.map_cons, zipD]
    unfold atF at h
    by_cases hm : x.a = (if j < i then j else i) ∧ x.b = (if j > i then j else i)
    · rw [if_pos hm] at h
      cases h
      refine ⟨.d x.d, .d (.int v), forL_rt (s1 := [.d w, .d st, .d (.int i), .d (.int j), .d x.d, .d (.int v)]) rfl ?_⟩
      obtain ⟨h1, h2⟩ := hm
      by_cases hij : j < i
      · rw [if_pos hij] at h1
        rw [if_neg (by omega)] at h2
        have n1 : ¬ (x.a = i ∧ x.b = j) := by omega
        have p1 : x.a = j ∧ x.b = i := ⟨h1, h2⟩
        refine sq (s1 := [.d w, .d st, .d (.int i), .d (.int j), .d x.d, .d (.int v)]) ?_ ?_
        · simp [tie_cut, szTup_ok, eq_pair, n1]
        · simp [tie_cut, szTup_ok, eq_pair, p1, hij]
      · rw [if_neg hij] at h1
        have hji : j > i := by
          rcases Int.lt_trichotomy i j with e | e | e
          · exact e
          · subst e; simp at h2; omega
          · omega
        rw [if_pos hji] at h2
        have p1 : x.a = i ∧ x.b = j := ⟨h1, h2⟩
        refine sq_rt ?_
        simp [tie_cut, szTup_ok, eq_pair, p1, hij]
    · rw [if_neg hm] at h
      obtain ⟨y4, y5, e⟩ := loopU L xs (k + 1) q (.d x.d) (.d (.int v)) (fun y hy => hL y (List.mem_cons_of_mem _ hy)) (by simpa using hl) h
      obtain ⟨_, _, _, hk, _⟩ := atF_some _ _ _ h
      have n1 : ¬ (x.a = i ∧ x.b = j) := fun z => hm ⟨by rw [if_neg (by omega)]; exact z.1, by rw [if_pos (by omega)]; exact z.2⟩
      have n2 : ¬ (x.a = j ∧ x.b = i) := fun z => hm ⟨by rw [if_pos (by omega)]; exact z.1, by rw [if_neg (by omega)]; exact z.2⟩
      refine ⟨y4, y5, forL_cons (s1 := [.d w, .d st, .d (.int i), .d (.int j), .d x.d, .d (.int v)]) (s2 := [.d w, .d st, .d (.int i), .d (.int j), .d x.d, .d (.int v)]) rfl ?_ (e.trans ?_)⟩
      · refine sq (s1 := [.d w, .d st, .d (.int i), .d (.int j), .d x.d, .d (.int v)]) ?_ ?_
        · simp [tie_cut, szTup_ok, eq_pair, n1]
        · simp [tie_cut, szTup_ok, eq_pair, n2]
      · rw [show q - k = (q - (k + 1)) + 1 by omega, List.getD_cons_succ]
theorem between_ok {p : Plan} (hp : POk p) {xs : List Int} (hl : xs.length = p.L.length) {i j : Int} {k : Nat} (h : ixL p.L i j = some k) : outV (M_units_between [webD p, sD xs, .int i, .int j]) = .ok (.int (flw p.L xs i j)) := by
  obtain ⟨x4, x5, e⟩ := loopU (w := webD p) (st := sD xs) p.L xs 0 k .no .no (fun x hx => (hp.t x hx).2.1) hl h
  rw [flw_eq h]
  refine fnB_rt ⟨[.d (webD p), .d (sD xs), .d (.int i), .d (.int j), x4, x5], ?_⟩
  show B_units_between [.d (webD p), .d (sD xs), .d (.int i), .d (.int j), .no, .no] = _
  unfold B_units_between
  refine sq_rt (for_eq (ds := zipD (p.L.map Tie.d) (xs.map D.int)) (s1 := [.d (webD p), .d (sD xs), .d (.int i), .d (.int j), .no, .no]) ?_ e)
  unfold iZipD
  rw [show (aCons (eO (mP (pFld tabF0 "ties" (pVar 0)))) (aCons (eO (mP (pVar 1))) (aNil))) [.d (webD p), .d (sD xs), .d (.int i), .d (.int j), .no, .no] = .ok [.d (.tup (p.L.map Tie.d)), .d (sD xs)] [.d (webD p), .d (sD xs), .d (.int i), .d (.int j), .no, .no] from by simp [w_ties]]
  rfl
theorem proom_ok {p : Plan} (hp : POk p) {xs : List Int} (hs : SOk p xs) {i j : Int} (h0 : 0 ≤ i) (h1 : i < p.n) (hj : j ∈ srt (bes p.L i)) : outV (M_room [webD p, sD xs, .int i, .int j]) = .ok (.int (rom p.L xs i j)) := by
  obtain ⟨k, hk⟩ := bes_ix hp hj
  obtain ⟨hq, a1, b1⟩ := ix_some hk
  obtain ⟨g1, g2, g3, _⟩ := hp.t _ (List.getElem_mem hq)
  have j0 : 0 ≤ j := by
    by_cases q : j < i
    · rw [if_pos q] at a1; omega
    · omega
  have j1 : j < p.n := by
    by_cases q : j > i
    · rw [if_pos q] at b1; omega
    · omega
  have e1 := check_ok hp hs
  have e2 := ct_ints hp h0 h1 j0 j1
  rw [if_pos hj] at e2
  have er := room_at hp hk hq rfl
  unfold pr at er
  have eb := between_ok hp hs.len hk
  have e3 : rom p.L xs i j = (if j < i then (p.L[k]).u else (p.L[k]).t) - flw p.L xs i j := by unfold rom; rw [ltt_eq hk hq]
  have e4 : outV (M_room_of [webD p, sD xs, .int i, .int j]) = .ok (.int (rom p.L xs i j)) := by
    refine fnB_rt ⟨[.d (webD p), .d (sD xs), .d (.int i), .d (.int j)], ?_⟩
    show B_room_of [.d (webD p), .d (sD xs), .d (.int i), .d (.int j)] = _
    unfold B_room_of
    simp [w_room, szTup_ok, er, eb, e3]
  refine fnB_rt ⟨[.d (webD p), .d (sD xs), .d (.int i), .d (.int j)], ?_⟩
  show B_room [.d (webD p), .d (sD xs), .d (.int i), .d (.int j)] = _
  unfold B_room
  refine sq (s1 := [.d (webD p), .d (sD xs), .d (.int i), .d (.int j)]) (by simp [e1]) (sq (s1 := [.d (webD p), .d (sD xs), .d (.int i), .d (.int j)]) (by simp [e2]) (by simp [e4]))
end Law
namespace Mir
open PySem PySem.Spec PyProof.Rows L2
theorem mLc_mapW {α : Type} {vs : List Nat} {it : En → Res (List D)} {g : D → En → Option En} {t : MT} {e : ME} {s sw : En} (l : List α) (gd hd : α → D) (st : α → En) (hi : it s = .ok (l.map gd) s) (hw0 : wipeD s vs = sw) (hr0 : restD s s vs = s) (hl : l.length ≤ 1000)
    (H : ∀ x ∈ l, restD s (st x) vs = s ∧ wipeD (st x) vs = sw ∧ g (gd x) sw = some (st x) ∧ t (st x) = .ok true (st x) ∧ e (st x) = .ok (hd x) (st x)) : mLc vs it g t e s = .ok (.lst (l.map hd)) s := by
  obtain ⟨s', e1, h1⟩ := lcL_map (g := g) (t := t) (e := e) gd hd st sw l [] s hw0 (fun x hx => (H x hx).2) (by simpa using hl)
  unfold mLc
  rw [hi]
  show (lcL vs g t e (l.map gd) [] s).bind _ = _
  rw [e1]
  show (Res.ok (D.lst ([] ++ l.map hd)) (restD s s' vs) : Res D) = _
  have : restD s s' vs = s := by
    rcases h1 with rfl | ⟨x, hx, rfl⟩
    · exact hr0
    · exact (H x hx).1
  rw [this, List.nil_append]
theorem stB_ok {s : En} {i : Nat} {c k d c' : D} (h : stI c k d = some c') : stB s i c k d = .nx (s.set i (.b c')) := by unfold stB; rw [h]
theorem cut1 {α : Type} {x : α} {xs : List α} : cutL (x :: xs) (some 1) none = xs := by
  unfold cutL HT.sIx
  simp <;> omega
end Mir
namespace Law
open PySem PySem.Spec PyProof.Rows L2 Mir
/-! ### houses reached -/
inductive Fo (E : Int → Int → Prop) (b : Int) : List (Int × Option Int) → Prop
  | base : Fo E b [(b, none)]
  | snoc {l : List (Int × Option Int)} {q h : Int} : Fo E b l → q ∈ l.map (·.1) → h ∉ l.map (·.1) → E q h → Fo E b (l ++ [(h, some q)])
section
variable {E : Int → Int → Prop} {b : Int}
theorem Fo.nodup {l : List (Int × Option Int)} (f : Fo E b l) : (l.map (·.1)).Nodup := by
  induction f with
  | base => simp
  | snoc _ _ hn _ ih =>
    rw [List.map_append, List.nodup_append]
    refine ⟨ih, by simp, fun x hx y hy => ?_⟩
    simp at hy
    subst hy
    exact fun e => hn (e ▸ hx)
theorem Fo.keys {l : List (Int × Option Int)} (f : Fo E b l) (P : Int → Prop) (hb : P b) (he : ∀ q h, E q h → P h) : ∀ x ∈ l, P x.1 := by
  induction f with
  | base => intro x hx; simp at hx; subst hx; exact hb
  | snoc _ _ _ e ih =>
    intro x hx
    rcases List.mem_append.mp hx with hx | hx
    · exact ih x hx
    · simp at hx; subst hx; exact he _ _ e
theorem Fo.root {l : List (Int × Option Int)} (f : Fo E b l) : b ∈ l.map (·.1) := by
  induction f with
  | base => simp
  | snoc _ _ _ _ ih => rw [List.map_append]; exact List.mem_append_left _ ih
theorem Fo.rank {l : List (Int × Option Int)} (f : Fo E b l) : ∃ rk : Int → Nat, rk b = 0 ∧ (∀ x ∈ l, rk x.1 < l.length) ∧ ∀ x ∈ l, match x.2 with
    | none => x.1 = b
    | some q => q ∈ l.map (·.1) ∧ E q x.1 ∧ rk q < rk x.1 := by
  induction f with
  | base => exact ⟨fun _ => 0, rfl, by simp, by simp⟩
  | @snoc l q h f hq hn e ih =>
    obtain ⟨rk, h0, h1, h2⟩ := ih
    have ne : ∀ z ∈ l.map (·.1), z ≠ h := fun z hz e => hn (e ▸ hz)
    have lt : ∀ z ∈ l.map (·.1), rk z < l.length := fun z hz => by
      obtain ⟨x, hx, rfl⟩ := List.mem_map.mp hz
      exact h1 x hx
    refine ⟨fun z => if z = h then l.length else rk z, by dsimp only; rw [if_neg (ne _ f.root), h0], fun x hx => ?_, fun x hx => ?_⟩
    · rw [List.length_append, List.length_singleton]
      rcases List.mem_append.mp hx with hx | hx
      · have := h1 x hx
        dsimp only; split <;> omega
      · simp at hx; subst hx; simp
    · rcases List.mem_append.mp hx with hx | hx
      · have hh := h2 x hx
        have hx1 : x.1 ≠ h := ne _ (List.mem_map_of_mem hx)
        split
        · rename_i e2; rw [e2] at hh; exact hh
        · rename_i q' e2
          rw [e2] at hh
          refine ⟨by rw [List.map_append]; exact List.mem_append_left _ hh.1, hh.2.1, ?_⟩
          dsimp only
          rw [if_neg (ne _ hh.1), if_neg hx1]; exact hh.2.2
      · simp at hx; subst hx
        refine ⟨by rw [List.map_append]; exact List.mem_append_left _ hq, e, ?_⟩
        dsimp only
        rw [if_neg (ne _ hq), if_pos rfl]
        exact lt _ hq
theorem Fo.len {l : List (Int × Option Int)} (f : Fo E b l) {n : Nat} (hb : 0 ≤ b ∧ b < n) (he : ∀ q h, E q h → 0 ≤ h ∧ h < n) : l.length ≤ n := by
  have hk := f.keys (fun z => 0 ≤ z ∧ z < n) hb he
  have hn := f.nodup
  have h1 : ((l.map (·.1)).map Int.toNat).Nodup := by
    refine List.pairwise_map.mpr (hn.imp_of_mem fun {x y} hx hy hxy e => hxy ?_)
    obtain ⟨x', hx', rfl⟩ := List.mem_map.mp hx
    obtain ⟨y', hy', rfl⟩ := List.mem_map.mp hy
    have := hk _ hx'; have := hk _ hy'; omega
  have := L2.nat_nodup_len ((l.map (·.1)).map Int.toNat) (List.range n) h1 fun x hx => by
    obtain ⟨z, hz, rfl⟩ := List.mem_map.mp hx
    obtain ⟨y, hy, rfl⟩ := List.mem_map.mp hz
    have := hk _ hy
    exact List.mem_range.mpr (by omega)
  simpa using this
end
def optD : Option Int → D
  | some q => .int q
  | none => .non
def lD (l : List (Int × Option Int)) : List (D × D) := l.map fun x => (.int x.1, optD x.2)
def kD (l : List (Int × Option Int)) : D := .lst (l.map fun x => D.int x.1)
theorem look_l (l : List (Int × Option Int)) (h : Int) : lookK (lD l) (.inl h) = (l.find? fun x => decide (x.1 = h)).map fun x => optD x.2 := by
  unfold lookK lD
  rw [List.find?_map, Option.map_map]
  congr 1
  congr 1
  funext x
  show decide (some (Sum.inl x.1 : Key) = some (.inl h)) = decide (x.1 = h)
  rw [Bool.eq_iff_iff]; simp
theorem find_mem {l : List (Int × Option Int)} {h : Int} : (l.find? fun x => decide (x.1 = h)).isSome = decide (h ∈ l.map (·.1)) := by
  rw [Bool.eq_iff_iff, List.find?_isSome, decide_eq_true_iff, List.mem_map]
  constructor
  · rintro ⟨x, hx, e⟩; exact ⟨x, hx, of_decide_eq_true e⟩
  · rintro ⟨x, hx, e⟩; exact ⟨x, hx, decide_eq_true e⟩
theorem inF_keys {neg : Bool} {l : List (Int × Option Int)} {h : Int} : fInF neg (.int h) (.dct (lD l)) = some (.bl (xor neg (decide (h ∈ l.map (·.1))))) := by
  unfold fInF
  show (some (lookK (lD l) (.inl h))).map _ = _
  rw [look_l, Option.map_some, Option.isSome_map, find_mem]
theorem st_new {l : List (Int × Option Int)} {h q : Int} (hn : h ∉ l.map (·.1)) (hl : l.length < 1000) : stI (.dct (lD l)) (.int h) (.int q) = some (.dct (lD (l ++ [(h, some q)]))) := by
  show (if (lD l).length < sizeLine then some (D.dct (putKD (lD l) (.inl h) (.int h) (.int q))) else none) = _
  rw [if_pos (Nat.lt_of_lt_of_le (show (lD l).length < 1000 by unfold lD; simpa using hl) (by rw [sizeLine_eq]; decide))]
  unfold putKD
  rw [if_neg]
  · unfold lD; rw [List.map_append]; rfl
  · intro e
    obtain ⟨x, hx, e⟩ := List.any_eq_true.mp e
    unfold lD at hx
    obtain ⟨y, hy, rfl⟩ := List.mem_map.mp hx
    have e := of_decide_eq_true e
    have : y.1 = h := by
      have : (some (Sum.inl y.1) : Option Key) = some (.inl h) := e
      simpa using this
    exact hn (this ▸ List.mem_map_of_mem hy)
def Edg (L : List Tie) (xs : List Int) (q h : Int) : Prop := (∃ k, ixL L q h = some k) ∧ 0 < rom L xs q h
theorem ix_range {p : Plan} (hp : POk p) {i j : Int} {k : Nat} (h : ixL p.L i j = some k) : 0 ≤ i ∧ i < p.n ∧ 0 ≤ j ∧ j < p.n ∧ i ≠ j := by
  obtain ⟨hq, a1, b1⟩ := ix_some h
  obtain ⟨g1, g2, g3, _⟩ := hp.t _ (List.getElem_mem hq)
  rcases Int.lt_trichotomy i j with q | q | q
  · rw [if_neg (by omega)] at a1; rw [if_pos q] at b1; omega
  · subst q; simp at a1 b1; omega
  · rw [if_pos q] at a1; rw [if_neg (by omega)] at b1; omega
theorem Edg.range {p : Plan} (hp : POk p) {xs : List Int} {q h : Int} (e : Edg p.L xs q h) : 0 ≤ h ∧ h < (p.n.toNat : Int) := by
  obtain ⟨⟨k, hk⟩, _⟩ := e
  have := ix_range hp hk
  omega
theorem fo_len {p : Plan} (hp : POk p) {xs : List Int} {b : Int} (hb : 0 ≤ b ∧ b < p.n) {l : List (Int × Option Int)} (f : Fo (Edg p.L xs) b l) : l.length ≤ p.n.toNat := f.len (by omega) fun q h e => e.range hp
theorem reachIn {p : Plan} (hp : POk p) {xs : List Int} (hl : xs.length = p.L.length) {b q : Int} {k : Nat} (hb : 0 ≤ b ∧ b < p.n) : ∀ (os : List Int) (l : List (Int × Option Int)) (x6 : Sl), (∀ o ∈ os, ∃ k, ixL p.L q o = some k) → Fo (Edg p.L xs) b l → (l.map (·.1))[k]? = some q →
    ∃ (l' : List (Int × Option Int)) (x6' : Sl), forL (gSet 6) (mIf (mAnd (tPu (pOp2 (fInF true) (pVar 6) (pVar' 3))) (tPu (pOp2 fGt (pCall 4 M_law_room (psCons (pVar 0) (psCons (pVar 1) (psCons (pOp2 fAt (pVar' 4) (pVar 5)) (psCons (pVar 6) (psNil)))))) (pC (.int 0))))) (mSeq (mSetI tabF0 3 [] (pFlat (pVar 6)) (mP (pOp2 fAt (pVar' 4) (pVar 5))))
    (mExpr (mMt fApp tabF0 4 [] (psCons (pVar 6) (psNil))))) (mNext)) (os.map D.int) [.d p.d, .d (sD xs), .d (.int b), .b (.dct (lD l)), .b (kD l), .d (.int k), x6] =
      .nx [.d p.d, .d (sD xs), .d (.int b), .b (.dct (lD l')), .b (kD l'), .d (.int k), x6'] ∧ Fo (Edg p.L xs) b l'
  | [], l, x6, _, f, _ => ⟨l, x6, rfl, f⟩
  | o :: os, l, x6, ho, f, hk => by
    obtain ⟨kk, hkk⟩ := ho o (List.mem_cons_self ..)
    have ho' := fun z hz => ho z (List.mem_cons_of_mem o hz)
    have n10 := hp.n10
    have ll := fo_len hp hb f
    have ek : fAt (kD l) (.int k) = some (.int q) := by
      obtain ⟨h1, h2⟩ := List.getElem?_eq_some_iff.mp hk
      unfold kD
      rw [at_lst (by simpa using h1)]
      simp at h2 ⊢
      rw [h2]
    have er := room_ok hp hl hkk
    by_cases hm : o ∈ l.map (·.1)
    · obtain ⟨l', x6', e, f'⟩ := reachIn hp hl hb os l (.d (.int o)) ho' f hk
      refine ⟨l', x6', ?_, f'⟩
      refine forL_cons (s1 := [.d p.d, .d (sD xs), .d (.int b), .b (.dct (lD l)), .b (kD l), .d (.int k), .d (.int o)]) (s2 := [.d p.d, .d (sD xs), .d (.int b), .b (.dct (lD l)), .b (kD l), .d (.int k), .d (.int o)]) rfl ?_ e
      have := inF_keys (neg := true) (l := l) (h := o)
      rw [decide_eq_true hm] at this
      simp [this]
    · have hi := inF_keys (neg := true) (l := l) (h := o)
      rw [decide_eq_false hm] at hi
      by_cases hr : 0 < rom p.L xs q o
      · have hq : q ∈ l.map (·.1) := List.mem_of_getElem? hk
        have f2 : Fo (Edg p.L xs) b (l ++ [(o, some q)]) := f.snoc hq hm ⟨⟨kk, hkk⟩, hr⟩
        obtain ⟨l', x6', e, f'⟩ := reachIn hp hl hb os _ (.d (.int o)) ho' f2 (by rw [List.map_append, List.getElem?_append_left (List.getElem?_eq_some_iff.mp hk).1]; exact hk)
        refine ⟨l', x6', ?_, f'⟩
        refine forL_cons (s1 := [.d p.d, .d (sD xs), .d (.int b), .b (.dct (lD l)), .b (kD l), .d (.int k), .d (.int o)]) (s2 := [.d p.d, .d (sD xs), .d (.int b), .b (.dct (lD (l ++ [(o, some q)]))), .b (kD (l ++ [(o, some q)])), .d (.int k), .d (.int o)]) rfl ?_ e
        have hs := stB_ok (s := [.d p.d, .d (sD xs), .d (.int b), .b (.dct (lD l)), .b (kD l), .d (.int k), .d (.int o)]) (i := 3) (st_new (q := q) hm (show l.length < 1000 by omega))
        have ha : ∀ s : En, appP (.ok (.int o)) (some (.b (kD l))) 4 s = .ok .non (s.set 4 (.b (kD (l ++ [(o, some q)])))) := fun s => by
          unfold kD
          rw [appP_ok (by simp; omega)]
          simp
        simp [hi, ek, er, hr, hs, ha]
      · obtain ⟨l', x6', e, f'⟩ := reachIn hp hl hb os l (.d (.int o)) ho' f hk
        refine ⟨l', x6', ?_, f'⟩
        refine forL_cons (s1 := [.d p.d, .d (sD xs), .d (.int b), .b (.dct (lD l)), .b (kD l), .d (.int k), .d (.int o)]) (s2 := [.d p.d, .d (sD xs), .d (.int b), .b (.dct (lD l)), .b (kD l), .d (.int k), .d (.int o)]) rfl ?_ e
        simp [hi, ek, er, hr]
theorem reach_ok {p : Plan} (hp : POk p) {xs : List Int} (hl : xs.length = p.L.length) {b : Int} (hb : 0 ≤ b ∧ b < p.n) : ∃ l, outV (M_law_reach [p.d, sD xs, .int b]) = .ok (.dct (lD l)) ∧ Fo (Edg p.L xs) b l := by
  have n2 := hp.n2
  have n10 := hp.n10
  obtain ⟨s', e, l, x5, x6, rfl, f⟩ := forL_inv (g := gSet 5) (b := (mIf (tPu (pOp2 fLt (pVar 5) (pFn fLen (psCons (pVar' 4) (psNil))))) (mFor (iSeq (mP (pCall 2 M_law_near (psCons (pVar 0) (psCons (pOp2 fAt (pVar' 4) (pVar 5)) (psNil)))))) (gSet 6) (mIf (mAnd (tPu (pOp2 (fInF true) (pVar 6) (pVar' 3))) (tPu (pOp2 fGt (pCall 4 M_law_room (psCons (pVar 0) (psCons (pVar 1) (psCons (pOp2 fAt (pVar' 4) (pVar 5)) (psCons (pVar 6) (psNil)))))) (pC (.int 0))))) (mSeq (mSetI tabF0 3 [] (pFlat (pVar 6)) (mP (pOp2 fAt (pVar' 4) (pVar 5))))
    (mExpr (mMt fApp tabF0 4 [] (psCons (pVar 6) (psNil))))) (mNext))) (mNext))) (fun s => ∃ (l : List (Int × Option Int)) (x5 x6 : Sl), s = [.d p.d, .d (sD xs), .d (.int b), .b (.dct (lD l)), .b (kD l), x5, x6] ∧ Fo (Edg p.L xs) b l) (rangeD 0 p.n) [.d p.d, .d (sD xs), .d (.int b), .b (.dct (lD [(b, none)])), .b (kD [(b, none)]), .no, .no]
    (fun d hd s ⟨l, x5, x6, es, f⟩ => by
      subst es
      obtain ⟨k', rfl, k0, k1⟩ := mem_rangeD hd
      obtain ⟨k, rfl⟩ : ∃ k : Nat, k' = k := ⟨k'.toNat, by omega⟩
      refine ⟨[.d p.d, .d (sD xs), .d (.int b), .b (.dct (lD l)), .b (kD l), .d (.int k), x6], rfl, ?_⟩
      have hkl : (l.map fun x => D.int x.1).length = l.length := by simp
      by_cases hk : k < l.length
      · have hkk : (k : Int) < (l.length : Int) := by omega
        have hq : (l.map (·.1))[k]? = some (l[k]).1 := by simp [hk]
        have ek : fAt (kD l) (.int k) = some (.int (l[k]).1) := by
          unfold kD
          rw [at_lst (by simpa using hk)]
          simp
        obtain ⟨l', x6', e, f'⟩ := reachIn hp hl hb (srt (bes p.L (l[k]).1)) l x6 (fun o ho => bes_ix hp ho) f hq
        refine ⟨_, ?_, l', .d (.int k), x6', rfl, f'⟩
        rw [ev_if]
        have c : (tPu (pOp2 fLt (pVar 5) (pFn fLen (psCons (pVar' 4) (psNil))))) [.d p.d, .d (sD xs), .d (.int b), .b (.dct (lD l)), .b (kD l), .d (.int k), x6] = .ok true [.d p.d, .d (sD xs), .d (.int b), .b (.dct (lD l)), .b (kD l), .d (.int k), x6] := by
          simp [kD, hkk]
        rw [c, cIf_t]
        refine for_eq (ds := (srt (bes p.L (l[k]).1)).map D.int) (s1 := [.d p.d, .d (sD xs), .d (.int b), .b (.dct (lD l)), .b (kD l), .d (.int k), x6]) ?_ e
        simp [ek, lnear_ok hp]
      · have hkk : ¬ (k : Int) < (l.length : Int) := by omega
        exact ⟨_, by simp [kD, hkk], l, .d (.int k), x6, rfl, f⟩) ⟨[(b, none)], .no, .no, rfl, .base⟩
  refine ⟨l, ?_, f⟩
  refine fnB_rt ⟨[.d p.d, .d (sD xs), .d (.int b), .d (.dct (lD l)), .b (kD l), x5, x6], ?_⟩
  show B_law_reach [.d p.d, .d (sD xs), .d (.int b), .no, .no, .no, .no] = _
  unfold B_law_reach
  refine sq (s1 := [.d p.d, .d (sD xs), .d (.int b), .b (.dct (lD [(b, none)])), .no, .no, .no]) (by rfl) ?_
  refine sq (s1 := [.d p.d, .d (sD xs), .d (.int b), .b (.dct (lD [(b, none)])), .b (kD [(b, none)]), .no, .no]) (by simp [szR_ok, kD]) ?_
  refine sq (for_eq (ds := rangeD 0 p.n) (by simp -implicitDefEqProofs [pf0]; exact rgR1_ok (by omega) (Int.lt_of_le_of_lt n10 (by decide))) e) ?_
  rfl
end Law
namespace Law
open PySem PySem.Spec PyProof.Rows L2 Mir
/-! ### ways -/
def iD (w : List Int) : D := .lst (w.map D.int)
structure Way (L : List Tie) (xs : List Int) (b e : Int) (w : List Int) : Prop where
  hd : ∃ r, w = b :: r
  la : ∃ h : w ≠ [], w.getLast h = e
  nd : w.Nodup
  st : ∀ s ∈ stepsOf w, Edg L xs s.1 s.2
theorem look_of {E : Int → Int → Prop} {b : Int} {l : List (Int × Option Int)} {h : Int} (hm : h ∈ l.map (·.1)) : ∃ o, (h, o) ∈ l ∧ fAt (.dct (lD l)) (.int h) = some (optD o) := by
  have h1 := find_mem (l := l) (h := h)
  rw [decide_eq_true hm] at h1
  obtain ⟨x, hx⟩ := Option.isSome_iff_exists.mp h1
  have h2 := List.find?_some hx
  have h3 := List.mem_of_find?_eq_some hx
  have h4 : x.1 = h := of_decide_eq_true h2
  refine ⟨x.2, by rw [← h4]; exact h3, ?_⟩
  show (some (lookK (lD l) (.inl h))).join = _
  rw [look_l, hx]; rfl
theorem last_at {w : List Int} {c : Int} {r : List Int} (h : w = c :: r) : fAt (iD w.reverse) (.int (-1)) = some (.int c) := by
  subst h
  show atI _ _ = _
  unfold atI
  have : ixN ((c :: r).reverse.map D.int).length (-1) = some r.length := by
    unfold ixN
    simp
    omega
  rw [this]
  simp
theorem optI_non {o : Option Int} : fIsNot (optD o) .non = some (.bl o.isSome) := by
  rw [isnot_non]
  cases o <;> rfl
theorem wayLoop {p : Plan} {xs : List Int} {b e : Int} {l : List (Int × Option Int)} (hll : l.length ≤ p.n.toNat) {rk : Int → Nat} (r0 : rk b = 0) (r1 : ∀ x ∈ l, rk x.1 < l.length) (r2 : ∀ x ∈ l, match x.2 with
    | none => x.1 = b
    | some q => q ∈ l.map (·.1) ∧ Edg p.L xs q x.1 ∧ rk q < rk x.1) (he : e ∈ l.map (·.1)) (hn10 : p.n ≤ 10) (hn2 : 2 ≤ p.n) {x0 x1 x2 x3 : Sl} :
    ∃ (w : List Int) (x6 : Sl), forL (gSet 6) (mIf (tPu (pOp2 fIsNot (pOp2 fAt (pVar 4) (pOp2 fAt (pVar' 5) (pOp1 fNeg (pC (.int 1))))) (pC .non))) (mExpr (mMt fApp tabF0 5 [] (psCons (pOp2 fAt (pVar 4) (pOp2 fAt (pVar' 5) (pOp1 fNeg (pC (.int 1))))) (psNil)))) (mNext)) (rangeD 0 p.n) [x0, x1, x2, x3, .d (.dct (lD l)), .b (iD [e]), .no] =
      .nx [x0, x1, x2, x3, .d (.dct (lD l)), .b (iD w.reverse), x6] ∧ Way p.L xs b e w ∧ w.length ≤ 20 ∧ ∃ d, x6 = .d d := by
  obtain ⟨s', ef, w, x6, rfl, ⟨c, r, hw, hc, hrk⟩, hlast, hpw, hst, hlen, hx6⟩ := forL_idx (rangeD 0 p.n) (fun i s => ∃ (w : List Int) (x6 : Sl), s = [x0, x1, x2, x3, .d (.dct (lD l)), .b (iD w.reverse), x6] ∧ (∃ c r, w = c :: r ∧ c ∈ l.map (·.1) ∧ (c = b ∨ rk c + i ≤ rk e)) ∧ (∃ h : w ≠ [], w.getLast h = e) ∧ w.Pairwise (fun x y => rk x < rk y) ∧ (∀ s ∈ stepsOf w, Edg p.L xs s.1 s.2) ∧ w.length ≤ i + 1 ∧ (i = 0 ∨ ∃ d, x6 = .d d))
    (g := gSet 6) (b := (mIf (tPu (pOp2 fIsNot (pOp2 fAt (pVar 4) (pOp2 fAt (pVar' 5) (pOp1 fNeg (pC (.int 1))))) (pC .non))) (mExpr (mMt fApp tabF0 5 [] (psCons (pOp2 fAt (pVar 4) (pOp2 fAt (pVar' 5) (pOp1 fNeg (pC (.int 1))))) (psNil)))) (mNext)))
    [x0, x1, x2, x3, .d (.dct (lD l)), .b (iD [e]), .no] (fun i d s hd ⟨w, x6, es, ⟨c, r, hw, hc, hrk⟩, hlast, hpw, hst, hlen, hx6⟩ => by
      obtain ⟨_, hi⟩ := rangeD_get hd
      subst es
      refine ⟨[x0, x1, x2, x3, .d (.dct (lD l)), .b (iD w.reverse), .d d], rfl, ?_⟩
      have la := last_at hw
      obtain ⟨o, hm, ho⟩ := look_of (E := Edg p.L xs) (b := b) hc
      have h2 := r2 _ hm
      cases o with
      | none =>
        refine ⟨[x0, x1, x2, x3, .d (.dct (lD l)), .b (iD w.reverse), .d d], ?_, w, .d d, rfl, ⟨c, r, hw, hc, .inl h2⟩, hlast, hpw, hst, by omega, .inr ⟨d, rfl⟩⟩
        simp [la, ho, optI_non]
      | some q =>
        obtain ⟨hq, hE, hlt⟩ := h2
        have hwl : w.length < 1000 := by omega
        have ha : ∀ s : En, appP (.ok (.int q)) (some (.b (iD w.reverse))) 5 s = .ok .non (s.set 5 (.b (iD (q :: w).reverse))) := fun s => by
          unfold iD
          rw [appP_ok (by simp; omega)]
          simp
        refine ⟨[x0, x1, x2, x3, .d (.dct (lD l)), .b (iD (q :: w).reverse), .d d], ?_, q :: w, .d d, rfl, ⟨q, w, rfl, hq, ?_⟩, ?_, ?_, ?_, by simp; omega, .inr ⟨d, rfl⟩⟩
        · simp [la, ho, optI_non]
          simp [optD, ha]
        · rcases hrk with hrk | hrk
          · have hlt : rk q < rk c := hlt
            rw [hrk, r0] at hlt; omega
          · have hlt : rk q < rk c := hlt
            exact .inr (by omega)
        · obtain ⟨h, e⟩ := hlast
          exact ⟨List.cons_ne_nil _ _, by rw [List.getLast_cons h, e]⟩
        · rw [List.pairwise_cons]
          refine ⟨fun y hy => ?_, hpw⟩
          rw [hw] at hy hpw
          rw [List.pairwise_cons] at hpw
          rcases List.mem_cons.mp hy with rfl | hy
          · exact hlt
          · exact Nat.lt_trans hlt (hpw.1 y hy)
        · rw [hw]
          intro s hs
          rw [stepsOf] at hs
          rcases List.mem_cons.mp hs with rfl | hs
          · exact hE
          · exact hst s (hw ▸ hs)) ⟨[e], .no, rfl, ⟨e, [], rfl, he, .inr (by omega)⟩, ⟨by simp, rfl⟩, by simp, (by intro s hs; cases hs), by simp, .inl rfl⟩
  have hnl : (rangeD 0 p.n).length = p.n.toNat := by rw [rangeD_length]; simp
  rw [hnl] at hrk hlen hx6
  refine ⟨w, x6, ef, ⟨?_, hlast, hpw.imp fun h e => by rw [e] at h; omega, hst⟩, by omega, by rcases hx6 with h | h; omega; exact h⟩
  rcases hrk with rfl | hrk
  · exact ⟨r, hw⟩
  · exfalso
    obtain ⟨x, hx, rfl⟩ := List.mem_map.mp he
    have := r1 x hx
    omega
theorem rev_at {w : List Int} {k : Nat} (h : k < w.length) : fAt (iD w.reverse) (.int ((w.length : Int) - 1 - k)) = some (.int (w.getD k 0)) := by
  have e : ((w.length : Int) - 1 - k) = ((w.length - 1 - k : Nat) : Int) := by omega
  rw [e]
  unfold iD
  rw [at_lst (by simp; omega)]
  simp [h]
  congr 1
  omega
theorem range_getD {w : List Int} : (List.range w.length).map (fun k => D.int (w.getD k 0)) = w.map D.int := by
  apply List.ext_getElem
  · simp
  · intro i h1 h2
    simp at h1 h2
    simp [h1]
theorem way_ok {p : Plan} (hp : POk p) {xs : List Int} (hl : xs.length = p.L.length) {b e : Int} (hb : 0 ≤ b ∧ b < p.n) : outV (M_law_way [p.d, sD xs, .int b, .int e]) = .ok .non ∨ ∃ w, outV (M_law_way [p.d, sD xs, .int b, .int e]) = .ok (iD w) ∧ Way p.L xs b e w ∧ w.length ≤ 20 := by
  obtain ⟨l, er, f⟩ := reach_ok hp hl hb
  have hin := inF_keys (neg := true) (l := l) (h := e)
  by_cases hm : e ∈ l.map (·.1)
  · rw [decide_eq_true hm] at hin
    obtain ⟨rk, r0, r1, r2⟩ := f.rank
    obtain ⟨w, x6, el, hw, hwl, d6, rfl⟩ := wayLoop (fo_len hp hb f) r0 r1 r2 hm hp.n10 hp.n2 (x0 := .d p.d) (x1 := .d (sD xs)) (x2 := .d (.int b)) (x3 := .d (.int e))
    refine .inr ⟨w, ?_, hw, hwl⟩
    refine fnB_rt ⟨[.d p.d, .d (sD xs), .d (.int b), .d (.int e), .d (.dct (lD l)), .b (iD w.reverse), .d d6], ?_⟩
    show B_law_way [.d p.d, .d (sD xs), .d (.int b), .d (.int e), .no, .no, .no] = _
    unfold B_law_way
    have n2 := hp.n2
    have n10 := hp.n10
    refine sq (s1 := [.d p.d, .d (sD xs), .d (.int b), .d (.int e), .d (.dct (lD l)), .no, .no]) (by simp [er]) ?_
    refine sq (s1 := [.d p.d, .d (sD xs), .d (.int b), .d (.int e), .d (.dct (lD l)), .no, .no]) (by simp [hin]) ?_
    refine sq (s1 := [.d p.d, .d (sD xs), .d (.int b), .d (.int e), .d (.dct (lD l)), .b (iD [e]), .no]) (by simp [szR_ok, iD]) ?_
    refine sq (for_eq (ds := rangeD 0 p.n) (by simp -implicitDefEqProofs [pf0]; exact rgR1_ok (by omega) (Int.lt_of_le_of_lt n10 (by decide))) el) ?_
    rw [ev_ret, ev_mFrz]
    have hwl2 : ((iD w.reverse) = .lst (w.reverse.map D.int)) := rfl
    rw [mLc_mapW (sw := [.d p.d, .d (sD xs), .d (.int b), .d (.int e), .d (.dct (lD l)), .b (iD w.reverse), .no]) (List.range w.length) (fun (k : Nat) => .int k) (fun k => .int (w.getD k 0)) (fun (k : Nat) => [.d p.d, .d (sD xs), .d (.int b), .d (.int e), .d (.dct (lD l)), .b (iD w.reverse), .d (.int k)]) ?a rfl rfl (by simp; omega) ?c]
    · rw [range_getD]; rfl
    case a =>
      have hl2 : ((w.reverse.map D.int).length) = w.length := by simp
      have := rg_len (s := [.d p.d, .d (sD xs), .d (.int b), .d (.int e), .d (.dct (lD l)), .b (iD w.reverse), .d d6]) (ts := w.reverse.map D.int) (by simp; omega)
      rw [hl2] at this
      simp -implicitDefEqProofs [iD] at this ⊢
      exact this
    case c =>
      intro k hk
      have hk := List.mem_range.mp hk
      refine ⟨rfl, rfl, rfl, rfl, ?_⟩
      have ra := rev_at hk
      have el : fLen [iD w.reverse] = some (.int w.length) := by unfold iD; rw [v_lenL]; simp
      simp [el, ra]
  · rw [decide_eq_false hm] at hin
    refine .inl (fnB_rt ⟨[.d p.d, .d (sD xs), .d (.int b), .d (.int e), .d (.dct (lD l)), .no, .no], ?_⟩)
    show B_law_way [.d p.d, .d (sD xs), .d (.int b), .d (.int e), .no, .no, .no] = _
    unfold B_law_way
    exact sq (s1 := [.d p.d, .d (sD xs), .d (.int b), .d (.int e), .d (.dct (lD l)), .no, .no]) (by simp [er]) (sq_rt (by simp [hin]))
/-! ### the least room; what is sent -/
theorem zip_steps : ∀ w : List Int, zipD (w.map D.int) (w.tail.map D.int) = (stepsOf w).map fun s => .tup [.int s.1, .int s.2]
  | [] => rfl
  | [x] => rfl
  | x :: y :: r => by
    have := zip_steps (y :: r)
    simp only [List.tail_cons, List.map_cons] at this ⊢
    rw [zipD, stepsOf, List.map_cons, this]
theorem cut_tail {w : List Int} (h : w ≠ []) : cutL (w.map D.int) (some 1) none = w.tail.map D.int := by
  cases w with
  | nil => exact absurd rfl h
  | cons x r => rw [List.map_cons, cut1]; rfl
theorem steps_len : ∀ w : List Int, (stepsOf w).length ≤ w.length
  | [] => Nat.le_refl _
  | [_] => by simp [stepsOf]
  | x :: y :: r => by have := steps_len (y :: r); simp [stepsOf] at this ⊢; omega
theorem rom_le {p : Plan} (hp : POk p) {xs : List Int} (hs : SOk p xs) {i j : Int} {k : Nat} (h : ixL p.L i j = some k) : rom p.L xs i j ≤ 1999998 := by
  obtain ⟨hk, _⟩ := ix_some h
  obtain ⟨_, _, _, g4, g5, g6, g7⟩ := hp.t _ (List.getElem_mem hk)
  have h1 := hs.lo k hk
  have h2 := hs.hi k hk
  unfold rom
  rw [ltt_eq h hk, flw_eq h]
  split <;> omega
theorem lmin_some : ∀ {l : List Int}, l ≠ [] → ∃ m, lmin l = some m
  | [], h => absurd rfl h
  | n :: ns, _ => by
    unfold lmin
    cases lmin ns with
    | none => exact ⟨_, rfl⟩
    | some m => exact ⟨_, rfl⟩
theorem least_ok {p : Plan} (hp : POk p) {xs : List Int} (hs : SOk p xs) {w : List Int} (hw : 2 ≤ w.length) (hw2 : w.length ≤ 30) (hst : ∀ s ∈ stepsOf w, Edg p.L xs s.1 s.2) : ∃ m : Int, outV (M_law_least_room [p.d, sD xs, iD w]) = .ok (.int m) ∧ 1 ≤ m ∧ m ≤ 1999998 ∧ ∀ s ∈ stepsOf w, m ≤ rom p.L xs s.1 s.2 := by
  have hne : w ≠ [] := fun e => by rw [e] at hw; simp at hw
  have hsl := steps_len w
  have hl1 : ((stepsOf w).map fun s => rom p.L xs s.1 s.2) ≠ [] := by
    match w, hw with
    | x :: y :: r, _ => simp [stepsOf]
  obtain ⟨m, hm⟩ := lmin_some hl1
  obtain ⟨m1, m2⟩ := lmin_is hm
  have hmin : ∀ s ∈ stepsOf w, m ≤ rom p.L xs s.1 s.2 := fun s hs' => m2 _ (List.mem_map.mpr ⟨s, hs', rfl⟩)
  obtain ⟨s, hs', es⟩ := List.mem_map.mp m1
  obtain ⟨⟨k, hk⟩, hpos⟩ := hst s hs'
  have hle := rom_le hp hs hk
  refine ⟨m, ?_, by omega, by omega, hmin⟩
  refine fnB_rt ⟨[.d p.d, .d (sD xs), .d (iD w), .no, .no], ?_⟩
  show B_law_least_room [.d p.d, .d (sD xs), .d (iD w), .no, .no] = _
  unfold B_law_least_room
  have c : mLc [3, 4] (iZipD (aCons (eO (mP (pVar 2))) (aCons (eO (mP (pSl fSl (pVar 2) (pPart (pC (.int 1))) (pNoPart)))) (aNil)))) (gUn (gOne (gSet 3) (gOne (gSet 4) (gNone)))) (mYes) (mP (pCall 4 M_law_room (psCons (pVar 0) (psCons (pVar 1) (psCons (pVar 3) (psCons (pVar 4) (psNil))))))) [.d p.d, .d (sD xs), .d (iD w), .no, .no] = .ok (.lst ((stepsOf w).map fun s => D.int (rom p.L xs s.1 s.2))) [.d p.d, .d (sD xs), .d (iD w), .no, .no] := by
    refine mLc_map (stepsOf w) (fun s => .tup [.int s.1, .int s.2]) (fun s => .int (rom p.L xs s.1 s.2)) (fun s => [.d p.d, .d (sD xs), .d (iD w), .d (.int s.1), .d (.int s.2)]) ?_ rfl rfl (by omega) ?_
    · unfold iZipD
      have hc : fSl (iD w) (some 1) none = some (.lst (w.tail.map D.int)) := by
        show some (D.lst (cutL (w.map D.int) (some 1) none)) = _
        rw [cut_tail hne]
      rw [show (aCons (eO (mP (pVar 2))) (aCons (eO (mP (pSl fSl (pVar 2) (pPart (pC (.int 1))) (pNoPart)))) (aNil))) [.d p.d, .d (sD xs), .d (iD w), .no, .no] = .ok [.d (iD w), .d (.lst (w.tail.map D.int))] [.d p.d, .d (sD xs), .d (iD w), .no, .no] from by simp [hc]]
      rw [← zip_steps]; rfl
    · rintro ⟨i, j⟩ hs'
      obtain ⟨⟨k, hk⟩, _⟩ := hst _ hs'
      refine ⟨rfl, rfl, rfl, rfl, ?_⟩
      simp [room_ok hp hs.len hk]
  have hf : fMin1 [.lst ((stepsOf w).map fun s => D.int (rom p.L xs s.1 s.2))] = some (.int m) := by
    have : ((stepsOf w).map fun s => D.int (rom p.L xs s.1 s.2)) = ((stepsOf w).map fun s => rom p.L xs s.1 s.2).map D.int := by rw [List.map_map]; rfl
    rw [this]
    show ((intsD _).bind lmin).map D.int = _
    rw [intsD_map]
    show (lmin _).map D.int = _
    rw [hm]; rfl
  simp [c, hf]
end Law
namespace Mir
open PySem PySem.Spec PyProof.Rows L2
theorem forL_brk {g : D → En → Option En} {b : MS} (I : En → Prop) : ∀ (ds : List D) (s : En), (∀ d ∈ ds, ∀ s, I s → ∃ s1, g d s = some s1 ∧ ∃ s2, I s2 ∧ (b s1 = .nx s2 ∨ b s1 = .bk s2)) → I s → ∃ s', forL g b ds s = .nx s' ∧ I s'
  | [], s, _, h => ⟨s, rfl, h⟩
  | d :: ds, s, st, h => by
    obtain ⟨s1, e1, s2, h2, e2⟩ := st d (List.mem_cons_self ..) s h
    rcases e2 with e2 | e2
    · obtain ⟨s', e3, h3⟩ := forL_brk I ds s2 (fun d hd => st d (List.mem_cons_of_mem _ hd)) h2
      exact ⟨s', forL_cons e1 e2 e3, h3⟩
    · refine ⟨s2, ?_, h2⟩
      unfold forL
      rw [e1]
      dsimp only
      rw [e2]
theorem call_n {n : Nat} {f : List D → Out} {as : MA} {s s1 : En} {ds : List D} {d : D} (h : as s = .ok (ds.map AV.d) s1) (hn : ds.length = n) (hf : outV (f ds) = .ok d) : mCall n [] f as s = .ok d s1 := by
  have h1 : ∀ ds : List D, argD s1 [] (ds.map AV.d) = some ds := fun ds => by
    induction ds with
    | nil => rfl
    | cons x xs ih =>
      show (match argD s1 [] (xs.map AV.d) with | some ds => some (x :: ds) | none => none) = _
      rw [ih]
  have h2 : ∀ ds : List D, lent (ds.map AV.d) = [] := fun ds => by
    induction ds with
    | nil => rfl
    | cons x xs ih => exact ih
  have h3 : ∀ (ds : List D) (r : En), back s1 (ds.map AV.d) r = s1 := fun ds => by
    induction ds with
    | nil => intro r; cases r <;> rfl
    | cons x xs ih => intro r; cases r <;> exact ih _
  unfold mCall
  rw [h, ev_rbind, h1]
  dsimp only
  rw [if_pos ⟨hn, by rw [h2]; exact List.nodup_nil⟩]
  unfold outV at hf
  cases e : f ds with
  | rt x r => rw [e] at hf; cases hf; dsimp only; rw [h3]
  | ex c fs r => rw [e] at hf; cases hf
  | nx r => rw [e] at hf; cases hf
  | ro x r => rw [e] at hf; cases hf
  | bk r => rw [e] at hf; cases hf
  | ct r => rw [e] at hf; cases hf
  | bad => rw [e] at hf; cases hf
@[simp] theorem ev_call3 {i : Nat} {f : List D → Out} {x y : D} {s : En} : callR 3 [true] f [.own i, .d x, .d y] s = withB .bad s[i]? fun d => (f [d, x, y]).back1 i s := by
  unfold callR
  cases e : s[i]? with
  | none => simp [argD, e, withB]
  | some z =>
    cases z with
    | b d =>
      simp [argD, e, withB, lent]
      cases f [d, x, y] with
      | rt x r => cases r with
        | nil => simp [back, Out.back1]
        | cons z r => cases z <;> cases r <;> simp [back, Out.back1] <;> (rename_i r; cases r <;> simp [back])
      | ex n fs r => cases r with
        | nil => simp [back, Out.back1]
        | cons z r => cases z <;> cases r <;> simp [back, Out.back1] <;> (rename_i r; cases r <;> simp [back])
      | _ => rfl
    | _ => simp [argD, e, withB]
end Mir
namespace Law
open PySem PySem.Spec PyProof.Rows L2 Mir
theorem mul2 {z : Int} : fMulA (.int 2) (.int z) = some (.int (2 * z)) := v_mulA (.inl (by decide))
theorem sentLoop {p : Plan} (hp : POk p) {x1 x2 : Sl} {u : Int} (hu : -(2 ^ 64) < u ∧ u < 2 ^ 64) : ∀ (w xs : List Int) (x5 x6 x7 : Sl), xs.length = p.L.length → (∀ s ∈ stepsOf w, ∃ k, ixL p.L s.1 s.2 = some k) →
    ∃ x5' x6' x7' : Sl, forL (gUn (gOne (gSet 5) (gOne (gSet 6) (gNone)))) (mSeq (mAsg 7 (mP (pCall 3 M_law_at (psCons (pVar 0) (psCons (pVar 5) (psCons (pVar 6) (psNil)))))))
    (mSetI tabF0 4 [] (pFlat (pVar 7)) (mP (pOp2 fAdd (pOp2 fAt (pVar' 4) (pVar 7)) (pOp2 fMulA (pVar 3) (pOp2 fSub (pC (.int 1)) (pOp2 fMulA (pC (.int 2)) (pFn fInt (psCons (pOp2 fGt (pVar 5) (pVar 6)) (psNil)))))))))) ((stepsOf w).map fun s => .tup [.int s.1, .int s.2]) [.d p.d, x1, x2, .d (.int u), .b (iD xs), x5, x6, x7] =
      .nx [.d p.d, x1, x2, .d (.int u), .b (iD (sendW p.L u w xs)), x5', x6', x7']
  | [], xs, x5, x6, x7, _, _ => ⟨x5, x6, x7, rfl⟩
  | [_], xs, x5, x6, x7, _, _ => ⟨x5, x6, x7, rfl⟩
  | i :: j :: r, xs, x5, x6, x7, hl, hs => by
    obtain ⟨k, hk⟩ := hs (i, j) (List.mem_cons_self ..)
    change ixL p.L i j = some k at hk
    obtain ⟨y5, y6, y7, e⟩ := sentLoop hp hu (x1 := x1) (x2 := x2) (j :: r) (stp p.L xs u i j) (.d (.int i)) (.d (.int j)) (.d (.int k)) (by rw [stp_len, hl]) fun s hs' => hs s (List.mem_cons_of_mem _ hs')
    refine ⟨y5, y6, y7, ?_⟩
    obtain ⟨hkl, _⟩ := ix_some hk
    have ea := lat_ok hp (i := i) (j := j)
    rw [show atF (if j < i then j else i) (if j > i then j else i) 0 p.L = some k from hk] at ea
    have ek : fAt (iD xs) (.int k) = some (.int (xs.getD k 0)) := by
      unfold iD
      rw [at_lst (by simp; omega)]
      simp [show k < xs.length by omega]
    have hm : ∀ z : Int, fMulA (.int u) (.int z) = some (.int (u * z)) := fun z => v_mulA (.inl hu)
    have hset : stI (iD xs) (.int k) (.int (xs.getD k 0 + u * (1 - 2 * (if j < i then 1 else 0)))) = some (iD (stp p.L xs u i j)) := by
      unfold iD
      rw [stI_lst (by omega) (by simp; omega)]
      unfold stp
      rw [hk]
      simp
    have hB := stB_ok (s := [.d p.d, x1, x2, .d (.int u), .b (iD xs), .d (.int i), .d (.int j), .d (.int k)]) (i := 4) hset
    rw [stepsOf, List.map_cons, sendW]
    refine forL_cons (s1 := [.d p.d, x1, x2, .d (.int u), .b (iD xs), .d (.int i), .d (.int j), x7]) (s2 := [.d p.d, x1, x2, .d (.int u), .b (iD (stp p.L xs u i j)), .d (.int i), .d (.int j), .d (.int k)]) rfl ?_ e
    refine sq (s1 := [.d p.d, x1, x2, .d (.int u), .b (iD xs), .d (.int i), .d (.int j), .d (.int k)]) (by simp [ea, optI]) ?_
    by_cases hij : j < i
    · rw [if_pos hij] at hB
      simp only [ev_set, ev_mP, ev_op2, ev_pVar', ev_pVar, List.getElem?_cons_zero, List.getElem?_cons_succ, ev_slB, ev_slD, ev_bind_ok, ek, ev_of_some, ev_pC, ev_fn, ev_psCons, ev_psNil, v_gt, hij, decide_true, ev_cons_ok, ev_binds_ok, v_intB, b2i, if_true, mul2, Mir.v_sub, hm, Mir.v_add, ev_put, ev_out, ev_pFlat, ev_flatI, ev_setAt]
      exact hB
    · rw [if_neg hij] at hB
      simp only [ev_set, ev_mP, ev_op2, ev_pVar', ev_pVar, List.getElem?_cons_zero, List.getElem?_cons_succ, ev_slB, ev_slD, ev_bind_ok, ek, ev_of_some, ev_pC, ev_fn, ev_psCons, ev_psNil, v_gt, hij, decide_false, ev_cons_ok, ev_binds_ok, v_intB, b2i, Bool.false_eq_true, if_false, mul2, Mir.v_sub, hm, Mir.v_add, ev_put, ev_out, ev_pFlat, ev_flatI, ev_setAt]
      exact hB
theorem sent_eval {p : Plan} (hp : POk p) {xs w : List Int} {u : Int} (hu : -(2 ^ 64) < u ∧ u < 2 ^ 64) (hl : xs.length = p.L.length) (hne : w ≠ []) (hs : ∀ s ∈ stepsOf w, ∃ k, ixL p.L s.1 s.2 = some k) : outV (M_law_sent [p.d, sD xs, iD w, .int u]) = .ok (sD (sendW p.L u w xs)) := by
  obtain ⟨x5, x6, x7, e⟩ := sentLoop hp hu (x1 := .d (sD xs)) (x2 := .d (iD w)) w xs .no .no .no hl hs
  refine fnB_rt ⟨[.d p.d, .d (sD xs), .d (iD w), .d (.int u), .b (iD (sendW p.L u w xs)), x5, x6, x7], ?_⟩
  show B_law_sent [.d p.d, .d (sD xs), .d (iD w), .d (.int u), .no, .no, .no, .no] = _
  unfold B_law_sent
  have hc : fSl (iD w) (some 1) none = some (.lst (w.tail.map D.int)) := by
    show some (D.lst (cutL (w.map D.int) (some 1) none)) = _
    rw [cut_tail hne]
  refine sq (s1 := [.d p.d, .d (sD xs), .d (iD w), .d (.int u), .b (iD xs), .no, .no, .no]) ?_ (sq (for_eq (ds := (stepsOf w).map fun s => .tup [.int s.1, .int s.2]) (s1 := [.d p.d, .d (sD xs), .d (iD w), .d (.int u), .b (iD xs), .no, .no, .no]) ?_ e) ?_)
  · have : fList [sD xs] = some (iD xs) := rfl
    simp [this]
  · unfold iZipD
    rw [show (aCons (eO (mP (pVar 2))) (aCons (eO (mP (pSl fSl (pVar 2) (pPart (pC (.int 1))) (pNoPart)))) (aNil))) [.d p.d, .d (sD xs), .d (iD w), .d (.int u), .b (iD xs), .no, .no, .no] = .ok [.d (iD w), .d (.lst (w.tail.map D.int))] [.d p.d, .d (sD xs), .d (iD w), .d (.int u), .b (iD xs), .no, .no, .no] from by simp [hc]]
    rw [← zip_steps]; rfl
  · have : fTuple [iD (sendW p.L u w xs)] = some (sD (sendW p.L u w xs)) := rfl
    simp [this]
/-- a walk that may be sent along -/
structure GW (p : Plan) (xs w : List Int) : Prop where
  l2 : 2 ≤ w.length
  l30 : w.length ≤ 30
  st : ∀ s ∈ stepsOf w, Edg p.L xs s.1 s.2
  df : (stepsOf w).Pairwise Dif
  en : ∃ i r, ∃ e : w = i :: r, (i = (i :: r).getLast (List.cons_ne_nil _ _)) ∨ ((i = p.s ∨ i = p.m) ∧ ((i :: r).getLast (List.cons_ne_nil _ _) = p.s ∨ (i :: r).getLast (List.cons_ne_nil _ _) = p.m))
theorem GW.send {p : Plan} (hp : POk p) {xs w : List Int} (hs : SOk p xs) (g : GW p xs w) {u : Int} (hu : 0 ≤ u) (hr : ∀ s ∈ stepsOf w, u ≤ rom p.L xs s.1 s.2) : SOk p (sendW p.L u w xs) := by
  obtain ⟨i, r, e, he⟩ := g.en
  have st := g.st
  have df := g.df
  rw [e] at st df hr ⊢
  exact sent_ok hp hs hu (fun s h => ⟨(st s h).1, hr s h⟩) df he
theorem Way.gw {p : Plan} {xs w : List Int} {b e : Int} (h : Way p.L xs b e w) (hl : w.length ≤ 20) (hne : b ≠ e) (hb : b = p.s ∨ b = p.m) (he : e = p.s ∨ e = p.m) : GW p xs w := by
  obtain ⟨r, rfl⟩ := h.hd
  obtain ⟨h1, h2⟩ := h.la
  refine ⟨?_, by omega, h.st, nodup_steps h.nd, b, r, rfl, .inr ⟨hb, by rw [h2]; exact he⟩⟩
  cases r with
  | nil => exact absurd h2 hne
  | cons _ _ => simp
theorem zero_ok {p : Plan} (hp : POk p) : SOk p (List.replicate p.L.length 0) := by
  have h0 : ∀ (L : List Tie) (h : Int), netT L (List.replicate L.length 0) h = 0 := fun L h => by
    induction L with
    | nil => rfl
    | cons x L ih => rw [List.length_cons, List.replicate_succ, netT, ih]; simp
  refine ⟨by simp, fun k h => ?_, fun k h => ?_, fun h _ _ _ _ => h0 _ _⟩
  · obtain ⟨_, _, _, g4, g5, g6, g7⟩ := hp.t _ (List.getElem_mem h)
    simp [h]; omega
  · obtain ⟨_, _, _, g4, g5, g6, g7⟩ := hp.t _ (List.getElem_mem h)
    simp [h]; omega
theorem zero_rep {p : Plan} (hp : POk p) : fMulA (.tup [.int 0]) (.int p.L.length) = some (sD (List.replicate p.L.length 0)) := by
  have hl := hp.len
  show (if _ then _ else _) = _
  rw [if_pos (by simp; omega)]
  unfold sD
  congr 2
  rw [Int.toNat_natCast]
  generalize p.L.length = m
  induction m with
  | zero => rfl
  | succ m ih => rw [List.replicate_succ, List.flatten_cons, ih]; rfl
theorem greatest_ok {p : Plan} (hp : POk p) : ∃ xs, outV (M_law_greatest [p.d]) = .ok (sD xs) ∧ SOk p xs := by
  have s0 := hp.s0; have s1 := hp.s1; have ne := hp.ne
  obtain ⟨s', el, xs, x2, x3, rfl, hs⟩ := forL_brk (g := gSet 2) (b := (mSeq (mAsg 3 (mP (pCall 4 M_law_way (psCons (pVar 0) (psCons (pVar 1) (psCons (pOp2 fAt (pVar 0) (pC (.int 2))) (psCons (pOp2 fAt (pVar 0) (pC (.int 3))) (psNil))))))))
    (mSeq (mIf (tPu (pOp2 fIs (pVar 3) (pC .non))) (mBreak) (mNext))
    (mAsg 1 (mP (pCall 4 M_law_sent (psCons (pVar 0) (psCons (pVar 1) (psCons (pVar 3) (psCons (pCall 3 M_law_least_room (psCons (pVar 0) (psCons (pVar 1) (psCons (pVar 3) (psNil))))) (psNil))))))))))) (fun s => ∃ (xs : List Int) (x2 x3 : Sl), s = [.d p.d, .d (sD xs), x2, x3] ∧ SOk p xs) (rangeD 0 400) [.d p.d, .d (sD (List.replicate p.L.length 0)), .no, .no] (fun d hd s ⟨xs, x2, x3, es, hs⟩ => by
      subst es
      refine ⟨[.d p.d, .d (sD xs), .d d, x3], rfl, ?_⟩
      rcases way_ok hp hs.len (b := p.s) (e := p.m) ⟨s0, s1⟩ with hw | ⟨w, hw, hW, hwl⟩
      · refine ⟨[.d p.d, .d (sD xs), .d d, .d .non], ⟨xs, .d d, .d .non, rfl, hs⟩, .inr ?_⟩
        have e1 : (mAsg 3 (mP (pCall 4 M_law_way (psCons (pVar 0) (psCons (pVar 1) (psCons (pOp2 fAt (pVar 0) (pC (.int 2))) (psCons (pOp2 fAt (pVar 0) (pC (.int 3))) (psNil)))))))) [.d p.d, .d (sD xs), .d d, x3] = .nx [.d p.d, .d (sD xs), .d d, .d .non] := by simp [pf2, pf3, hw]
        rw [ev_seq, e1, oSeq_nx, ev_seq]
        have : ∀ s : En, mBreak s = .bk s := fun _ => rfl
        simp [is_non, Mir.isNon, this]
      · have g := hW.gw hwl (Ne.symm ne) (.inl rfl) (.inr rfl)
        obtain ⟨m, em, m1, m2, m3⟩ := least_ok hp hs g.l2 g.l30 g.st
        have e2 := sent_eval hp (u := m) ⟨by omega, Int.lt_of_le_of_lt m2 (by decide)⟩ hs.len (w := w) (by have := g.l2; intro e; rw [e] at this; simp at this) fun s h => (g.st s h).1
        refine ⟨[.d p.d, .d (sD (sendW p.L m w xs)), .d d, .d (iD w)], ⟨_, .d d, .d (iD w), rfl, g.send hp hs (by omega) m3⟩, .inl ?_⟩
        refine sq (s1 := [.d p.d, .d (sD xs), .d d, .d (iD w)]) (by simp [pf2, pf3, hw]) ?_
        have hn : fIs (iD w) .non = some (.bl false) := by rw [is_non]; rfl
        refine sq (s1 := [.d p.d, .d (sD xs), .d d, .d (iD w)]) (by simp [hn]) ?_
        simp [em, e2]) ⟨_, .no, .no, rfl, zero_ok hp⟩
  refine ⟨xs, ?_, hs⟩
  refine fnB_rt ⟨[.d p.d, .d (sD xs), x2, x3], ?_⟩
  show B_law_greatest [.d p.d, .no, .no, .no] = _
  unfold B_law_greatest
  refine sq (s1 := [.d p.d, .d (sD (List.replicate p.L.length 0)), .no, .no]) (by simp [pf1, szTup_ok, zero_rep hp]) ?_
  refine sq (for_eq (ds := rangeD 0 400) (by simp -implicitDefEqProofs; exact rgR1_ok (by decide) (by decide)) el) (by simp)
end Law
namespace Law
open PySem PySem.Spec PyProof.Rows L2 Mir
theorem ring_ok {p : Plan} (hp : POk p) {xs : List Int} (hs : SOk p xs) {d : D} (h : Hand d) : ∃ r d', M_law_ring [d, p.d, sD xs] = .rt r [.b d'] ∧ Hand d' ∧ (r = .non ∨ ∃ w, r = iD w ∧ GW p xs w) := by
  have n2 := hp.n2
  have n10 := hp.n10
  have hplen := hp.len
  obtain ⟨one, d1, e1, hd1, o0, o1⟩ := take_ok h (m := p.n) (by omega) (by omega)
  suffices hh : ∃ r d' s', B_law_ring [.b d, .d p.d, .d (sD xs), .no, .no, .no, .no] = .rt r (.b d' :: s') ∧ Hand d' ∧ (r = .non ∨ ∃ w, r = iD w ∧ GW p xs w) by
    obtain ⟨r, d', s', q1, q2⟩ := hh
    exact ⟨r, d', fnB_rtE (n := 7) (m := [true]) (b := B_law_ring) (ds := [d, p.d, sD xs]) q1, q2⟩
  unfold B_law_ring
  obtain ⟨M, eM⟩ : ∃ M, M = (srt (bes p.L one)).filter fun o => decide (0 < rom p.L xs one o) := ⟨_, rfl⟩
  have hMl : M.length ≤ 600 := by
    have := bes_len2 (L := p.L) (h := one)
    have := List.length_filter_le (fun o => decide (0 < rom p.L xs one o)) (srt (bes p.L one))
    rw [← eM] at this; omega
  have s1 : (mAsg 3 (mCall 2 [true] M_law_take (aCons (oOwn 0) (aCons (eO (mP (pOp2 fAt (pVar 1) (pC (.int 0))))) (aNil))))) [.b d, .d p.d, .d (sD xs), .no, .no, .no, .no] = .nx [.b d1, .d p.d, .d (sD xs), .d (.int one), .no, .no, .no] := by simp [pf0, e1]
  have s2 : (mAsg 4 (mFrz (mLc [5] (iSeq (mP (pCall 2 M_law_near (psCons (pVar 1) (psCons (pVar 3) (psNil)))))) (gSet 5) (tPu (pOp2 fGt (pCall 4 M_law_room (psCons (pVar 1) (psCons (pVar 2) (psCons (pVar 3) (psCons (pVar 5) (psNil)))))) (pC (.int 0)))) (mP (pVar 5))))) [.b d1, .d p.d, .d (sD xs), .d (.int one), .no, .no, .no] = .nx [.b d1, .d p.d, .d (sD xs), .d (.int one), .d (iD M), .no, .no] := by
    rw [ev_asg, ev_mFrz, mLc_one (ds := (srt (bes p.L one)).map D.int) (fun d => match d with | .int o => if 0 < rom p.L xs one o then some (.int o) else none | _ => none) ?a rfl ?b ?c]
    · have : ((srt (bes p.L one)).map D.int).filterMap (fun d => match d with | .int o => if 0 < rom p.L xs one o then some (D.int o) else none | _ => none) = M.map D.int := by
        rw [eM, List.filterMap_map]
        generalize srt (bes p.L one) = l
        induction l with
        | nil => rfl
        | cons x l ih =>
          rw [List.filterMap_cons, List.filter_cons]
          by_cases q : 0 < rom p.L xs one x
          · simp only [Function.comp, if_pos q, decide_eq_true q, if_true, List.map_cons]
            (rw [← ih]) <;> rfl
          · simp only [Function.comp, if_neg q, decide_eq_false q, Bool.false_eq_true, if_false]
            (rw [← ih]) <;> rfl
      rw [this]; rfl
    case a => simp [lnear_ok hp]
    case b => have := bes_len2 (L := p.L) (h := one); simp; omega
    case c =>
      intro z hz
      obtain ⟨o, ho, rfl⟩ := List.mem_map.mp hz
      obtain ⟨k, hk⟩ := bes_ix hp ho
      have er := room_ok hp hs.len hk
      by_cases q : 0 < rom p.L xs one o
      · exact ⟨true, by simp [er, q], _, rfl, if_pos q⟩
      · exact ⟨false, by simp [er, q], if_neg q⟩
  have hlenM : fLen [iD M] = some (.int M.length) := by unfold iD; rw [v_lenL]; simp
  by_cases hM0 : M = []
  · refine ⟨.non, d1, [.d p.d, .d (sD xs), .d (.int one), .d (iD M), .no, .no], sq s1 (sq s2 (sq_rt ?_)), hd1, .inl rfl⟩
    have : (M.length : Int) = 0 := by rw [hM0]; rfl
    simp [hlenM, this]
  · have hM1 : ¬ (M.length : Int) = 0 := fun e => hM0 (List.eq_nil_of_length_eq_zero (by omega))
    have hM2 : 0 < M.length := List.length_pos_iff.mpr hM0
    obtain ⟨x, d2, e2, hd2, hx⟩ := pick_ok hd1 (ds := M.map D.int) (by simp; omega) (by simp; omega)
    obtain ⟨o, ho, rfl⟩ := List.mem_map.mp hx
    have ho' : o ∈ srt (bes p.L one) ∧ 0 < rom p.L xs one o := by
      rw [eM, List.mem_filter] at ho
      exact ⟨ho.1, of_decide_eq_true ho.2⟩
    obtain ⟨k, hk⟩ := bes_ix hp ho'.1
    obtain ⟨_, _, oo0, oo1, hne⟩ := ix_range hp hk
    have s3 : (mIf (tPu (pOp2 (eqD false) (pFn fLen (psCons (pVar 4) (psNil))) (pC (.int 0)))) (mRet (mP (pC .non))) (mNext)) [.b d1, .d p.d, .d (sD xs), .d (.int one), .d (iD M), .no, .no] = .nx [.b d1, .d p.d, .d (sD xs), .d (.int one), .d (iD M), .no, .no] := by simp [hlenM, hM0]
    have e2' : M_law_pick [d1, iD M] = .rt (.int o) [.b d2] := e2
    have s4 : (mAsg 5 (mCall 2 [true] M_law_pick (aCons (oOwn 0) (aCons (eO (mP (pVar 4))) (aNil))))) [.b d1, .d p.d, .d (sD xs), .d (.int one), .d (iD M), .no, .no] = .nx [.b d2, .d p.d, .d (sD xs), .d (.int one), .d (iD M), .d (.int o), .no] := by simp [e2']
    rcases way_ok hp hs.len (b := o) (e := one) ⟨oo0, oo1⟩ with hw | ⟨w, hw, hW, hwl⟩
    · refine ⟨.non, d2, [.d p.d, .d (sD xs), .d (.int one), .d (iD M), .d (.int o), .d .non], sq s1 (sq s2 (sq s3 (sq s4 (sq (s1 := [.b d2, .d p.d, .d (sD xs), .d (.int one), .d (iD M), .d (.int o), .d .non]) (by simp [hw]) (sq_rt ?_))))), hd2, .inl rfl⟩
      simp [is_non, Mir.isNon]
    · have hn : fIs (iD w) .non = some (.bl false) := by rw [is_non]; rfl
      have hlw : fLen [iD w] = some (.int w.length) := by unfold iD; rw [v_lenL]; simp
      by_cases h3 : (w.length : Int) < 3
      · refine ⟨.non, d2, [.d p.d, .d (sD xs), .d (.int one), .d (iD M), .d (.int o), .d (iD w)], sq s1 (sq s2 (sq s3 (sq s4 (sq (s1 := [.b d2, .d p.d, .d (sD xs), .d (.int one), .d (iD M), .d (.int o), .d (iD w)]) (by simp [hw]) (sq_rt ?_))))), hd2, .inl rfl⟩
        simp [hn, hlw, h3]
      · refine ⟨iD (one :: w), d2, [.d p.d, .d (sD xs), .d (.int one), .d (iD M), .d (.int o), .d (iD w)], sq s1 (sq s2 (sq s3 (sq s4 (sq (s1 := [.b d2, .d p.d, .d (sD xs), .d (.int one), .d (iD M), .d (.int o), .d (iD w)]) (by simp [hw]) (sq (s1 := [.b d2, .d p.d, .d (sD xs), .d (.int one), .d (iD M), .d (.int o), .d (iD w)]) (by simp [hn, hlw, h3]) ?_))))), hd2, .inr ⟨one :: w, rfl, ?_⟩⟩
        · have := v_addL (xs := [D.int one]) (ys := w.map D.int) (by simp; omega)
          have h' : fAdd (.lst [.int one]) (iD w) = some (iD (one :: w)) := this
          simp [szLst_ok, h']
        · obtain ⟨r, rfl⟩ := hW.hd
          obtain ⟨q1, q2⟩ := hW.la
          refine ⟨by simp, by simp at hwl ⊢; omega, ?_, ring_steps hW.nd q2 (by simp at h3; omega), one, o :: r, rfl, .inl ?_⟩
          · intro s hs'
            rw [stepsOf] at hs'
            rcases List.mem_cons.mp hs' with rfl | hs'
            · exact ⟨⟨k, hk⟩, ho'.2⟩
            · exact hW.st s hs'
          · rw [List.getLast_cons (List.cons_ne_nil _ _)]; exact q2.symm
theorem some_ok {p : Plan} (hp : POk p) {d : D} (h : Hand d) : ∃ xs d', M_law_some_stream [d, p.d] = .rt (sD xs) [.b d'] ∧ Hand d' ∧ SOk p xs := by
  have s0 := hp.s0; have sn := hp.s1; have m0 := hp.m0; have mn := hp.m1; have ne := hp.ne
  suffices hh : ∃ xs d' s', B_law_some_stream [.b d, .d p.d, .no, .no, .no, .no] = .rt (sD xs) (.b d' :: s') ∧ Hand d' ∧ SOk p xs by
    obtain ⟨xs, d', s', q1, q2⟩ := hh
    exact ⟨xs, d', fnB_rtE (n := 6) (m := [true]) (b := B_law_some_stream) (ds := [d, p.d]) q1, q2⟩
  unfold B_law_some_stream
  obtain ⟨t, d1, e1, hd1, t0, t1⟩ := take_ok h (m := 4) (by decide) (by decide)
  have s1 : (mAsg 2 (mP (pOp2 fMulA (pTup (psCons (pC (.int 0)) (psNil))) (pFn fLen (psCons (pOp2 fAt (pVar 1) (pC (.int 1))) (psNil)))))) [.b d, .d p.d, .no, .no, .no, .no] = .nx [.b d, .d p.d, .d (sD (List.replicate p.L.length 0)), .no, .no, .no] := by simp [pf1, szTup_ok, zero_rep hp]
  by_cases ht : t = 0
  · obtain ⟨xs, eg, hs⟩ := greatest_ok hp
    exact ⟨xs, d1, [.d p.d, .d (sD (List.replicate p.L.length 0)), .no, .no, .no], sq s1 (sq_rt (by simp [e1, ht, eg])), hd1, hs⟩
  · obtain ⟨c, d2, e2, hd2, c0, c1⟩ := take_ok hd1 (m := 5) (by decide) (by decide)
    obtain ⟨s', el, xs, d3, x3, x4, x5, rfl, hd3, hs⟩ := forL_inv (g := gSet 3) (b := (mSeq (mAsg 4 (mCall 2 [true] M_law_take (aCons (oOwn 0) (aCons (eO (mP (pC (.int 5)))) (aNil)))))
    (mSeq (mAsg 5 (mP (pCall 4 M_law_way (psCons (pVar 1) (psCons (pVar 2) (psCons (pOp2 fAt (pVar 1) (pC (.int 2))) (psCons (pOp2 fAt (pVar 1) (pC (.int 3))) (psNil))))))))
    (mSeq (mIf (tPu (pOp2 (eqD false) (pVar 4) (pC (.int 0)))) (mAsg 5 (mP (pCall 4 M_law_way (psCons (pVar 1) (psCons (pVar 2) (psCons (pOp2 fAt (pVar 1) (pC (.int 3))) (psCons (pOp2 fAt (pVar 1) (pC (.int 2))) (psNil)))))))) (mNext))
    (mSeq (mIf (tPu (pOp2 fGt (pVar 4) (pC (.int 2)))) (mAsg 5 (mCall 3 [true] M_law_ring (aCons (oOwn 0) (aCons (eO (mP (pVar 1))) (aCons (eO (mP (pVar 2))) (aNil)))))) (mNext))
    (mIf (tPu (pOp2 fIsNot (pVar 5) (pC .non))) (mAsg 2 (mCall 4 [] M_law_sent (aCons (eO (mP (pVar 1))) (aCons (eO (mP (pVar 2))) (aCons (eO (mP (pVar 5))) (aCons (eO (mOp2 fAdd (eO (mP (pC (.int 1)))) (eO (mCall 2 [true] M_law_take (aCons (oOwn 0) (aCons (eO (mP (pCall 3 M_law_least_room (psCons (pVar 1) (psCons (pVar 2) (psCons (pVar 5) (psNil))))))) (aNil))))))) (aNil))))))) (mNext))))))) (fun s => ∃ (xs : List Int) (d3 : D) (x3 x4 x5 : Sl), s = [.b d3, .d p.d, .d (sD xs), x3, x4, x5] ∧ Hand d3 ∧ SOk p xs) (rangeD 0 c) [.b d2, .d p.d, .d (sD (List.replicate p.L.length 0)), .no, .no, .no] (fun dd hdd s ⟨xs, d3, x3, x4, x5, es, hd3, hs⟩ => by
      subst es
      refine ⟨[.b d3, .d p.d, .d (sD xs), .d dd, x4, x5], rfl, ?_⟩
      obtain ⟨t, d4, e4, hd4, tt0, tt1⟩ := take_ok hd3 (m := 5) (by decide) (by decide)
      -- the walk that is drawn
      have key : ∃ (r : D) (d5 : D), Hand d5 ∧ (r = .non ∨ ∃ w, r = iD w ∧ GW p xs w) ∧ ∀ q : MS, (mSeq (mAsg 4 (mCall 2 [true] M_law_take (aCons (oOwn 0) (aCons (eO (mP (pC (.int 5)))) (aNil)))))
    (mSeq (mAsg 5 (mP (pCall 4 M_law_way (psCons (pVar 1) (psCons (pVar 2) (psCons (pOp2 fAt (pVar 1) (pC (.int 2))) (psCons (pOp2 fAt (pVar 1) (pC (.int 3))) (psNil))))))))
    (mSeq (mIf (tPu (pOp2 (eqD false) (pVar 4) (pC (.int 0)))) (mAsg 5 (mP (pCall 4 M_law_way (psCons (pVar 1) (psCons (pVar 2) (psCons (pOp2 fAt (pVar 1) (pC (.int 3))) (psCons (pOp2 fAt (pVar 1) (pC (.int 2))) (psNil)))))))) (mNext))
    (mSeq (mIf (tPu (pOp2 fGt (pVar 4) (pC (.int 2)))) (mAsg 5 (mCall 3 [true] M_law_ring (aCons (oOwn 0) (aCons (eO (mP (pVar 1))) (aCons (eO (mP (pVar 2))) (aNil)))))) (mNext)) q)))) [.b d3, .d p.d, .d (sD xs), .d dd, x4, x5] = q [.b d5, .d p.d, .d (sD xs), .d dd, .d (.int t), .d r] := by
        have hway1 : ∃ r, outV (M_law_way [p.d, sD xs, .int p.s, .int p.m]) = .ok r ∧ (r = .non ∨ ∃ w, r = iD w ∧ GW p xs w) := by
          rcases way_ok hp hs.len (b := p.s) (e := p.m) ⟨s0, sn⟩ with hw | ⟨w, hw, hW, hwl⟩
          · exact ⟨_, hw, .inl rfl⟩
          · exact ⟨_, hw, .inr ⟨w, rfl, hW.gw hwl (Ne.symm ne) (.inl rfl) (.inr rfl)⟩⟩
        have hway2 : ∃ r, outV (M_law_way [p.d, sD xs, .int p.m, .int p.s]) = .ok r ∧ (r = .non ∨ ∃ w, r = iD w ∧ GW p xs w) := by
          rcases way_ok hp hs.len (b := p.m) (e := p.s) ⟨m0, mn⟩ with hw | ⟨w, hw, hW, hwl⟩
          · exact ⟨_, hw, .inl rfl⟩
          · exact ⟨_, hw, .inr ⟨w, rfl, hW.gw hwl ne (.inr rfl) (.inl rfl)⟩⟩
        obtain ⟨r1, w1, g1⟩ := hway1
        obtain ⟨r2, w2, g2⟩ := hway2
        have a1 : (mAsg 4 (mCall 2 [true] M_law_take (aCons (oOwn 0) (aCons (eO (mP (pC (.int 5)))) (aNil))))) [.b d3, .d p.d, .d (sD xs), .d dd, x4, x5] = .nx [.b d4, .d p.d, .d (sD xs), .d dd, .d (.int t), x5] := by simp [e4]
        have a2 : (mAsg 5 (mP (pCall 4 M_law_way (psCons (pVar 1) (psCons (pVar 2) (psCons (pOp2 fAt (pVar 1) (pC (.int 2))) (psCons (pOp2 fAt (pVar 1) (pC (.int 3))) (psNil)))))))) [.b d4, .d p.d, .d (sD xs), .d dd, .d (.int t), x5] = .nx [.b d4, .d p.d, .d (sD xs), .d dd, .d (.int t), .d r1] := by simp [pf2, pf3, w1]
        by_cases q0 : t = 0
        · subst q0
          refine ⟨r2, d4, hd4, g2, fun q => ?_⟩
          exact sq a1 (sq a2 (sq (s1 := [.b d4, .d p.d, .d (sD xs), .d dd, .d (.int 0), .d r2]) (by simp [pf2, pf3, w2]) (sq (s1 := [.b d4, .d p.d, .d (sD xs), .d dd, .d (.int 0), .d r2]) (by simp) rfl)))
        · by_cases q2 : 2 < t
          · obtain ⟨r, d5, er, hd5, gr⟩ := ring_ok hp hs hd4
            refine ⟨r, d5, hd5, gr, fun q => ?_⟩
            exact sq a1 (sq a2 (sq (s1 := [.b d4, .d p.d, .d (sD xs), .d dd, .d (.int t), .d r1]) (by simp [q0]) (sq (s1 := [.b d5, .d p.d, .d (sD xs), .d dd, .d (.int t), .d r]) (by simp [q2, er]) rfl)))
          · refine ⟨r1, d4, hd4, g1, fun q => ?_⟩
            exact sq a1 (sq a2 (sq (s1 := [.b d4, .d p.d, .d (sD xs), .d dd, .d (.int t), .d r1]) (by simp [q0]) (sq (s1 := [.b d4, .d p.d, .d (sD xs), .d dd, .d (.int t), .d r1]) (by simp [q2]) rfl)))
      obtain ⟨r, d5, hd5, gr, key⟩ := key
      rcases gr with rfl | ⟨w, rfl, g⟩
      · refine ⟨[.b d5, .d p.d, .d (sD xs), .d dd, .d (.int t), .d .non], ?_, xs, d5, _, _, _, rfl, hd5, hs⟩
        rw [key]
        simp [isnot_non, Mir.isNon]
      · obtain ⟨m, em, m1, m2, m3⟩ := least_ok hp hs g.l2 g.l30 g.st
        obtain ⟨u, d6, e6, hd6, u0, u1⟩ := take_ok hd5 (m := m) (by omega) (by omega)
        have e7 := sent_eval hp (u := 1 + u) ⟨by omega, Int.lt_of_le_of_lt (show 1 + u ≤ 1999998 by omega) (by decide)⟩ hs.len (w := w) (by have := g.l2; intro e; rw [e] at this; simp at this) fun s h => (g.st s h).1
        refine ⟨[.b d6, .d p.d, .d (sD (sendW p.L (1 + u) w xs)), .d dd, .d (.int t), .d (iD w)], ?_, sendW p.L (1 + u) w xs, d6, _, _, _, rfl, hd6, g.send hp hs (by omega) fun s hs' => by have := m3 s hs'; omega⟩
        rw [key]
        have hn : fIsNot (iD w) .non = some (.bl true) := by rw [isnot_non]; rfl
        rw [ev_if]
        have c1 : (tPu (pOp2 fIsNot (pVar 5) (pC .non))) [.b d5, .d p.d, .d (sD xs), .d dd, .d (.int t), .d (iD w)] = .ok true [.b d5, .d p.d, .d (sD xs), .d dd, .d (.int t), .d (iD w)] := by simp [hn]
        rw [c1, cIf_t, ev_asg, call_n (n := 4) (ds := [p.d, sD xs, iD w, .int (1 + u)]) (d := sD (sendW p.L (1 + u) w xs)) (s1 := [.b d6, .d p.d, .d (sD xs), .d dd, .d (.int t), .d (iD w)]) ?_ rfl e7]
        · rfl
        · simp [em, e6]) ⟨_, d2, .no, .no, .no, rfl, hd2, zero_ok hp⟩
    refine ⟨xs, d3, [.d p.d, .d (sD xs), x3, x4, x5], sq s1 (sq (s1 := [.b d1, .d p.d, .d (sD (List.replicate p.L.length 0)), .no, .no, .no]) (by simp [e1, ht]) (sq (for_eq (ds := rangeD 0 c) (s1 := [.b d2, .d p.d, .d (sD (List.replicate p.L.length 0)), .no, .no, .no]) ?_ el) (by simp))), hd3, hs⟩
    simp -implicitDefEqProofs [e2]
    exact rgR1_ok c0 (Int.lt_trans c1 (by decide))
end Law
namespace Law
open PySem PySem.Spec PyProof.Rows L2 Mir
theorem bent_ok {p : Plan} (hp : POk p) (h63 : p.L.length ≤ 63) {xs : List Int} (hs : SOk p xs) {d : D} (h : Hand d) : ∃ z d', M_law_bent [d, p.d, sD xs] = .rt z [.b d'] ∧ Hand d' ∧ Part z := by
  have hplen := hp.len
  have hxl := hs.len
  suffices hh : ∃ z d' s', B_law_bent [.b d, .d p.d, .d (sD xs), .no, .no, .no, .no] = .rt z (.b d' :: s') ∧ Hand d' ∧ Part z by
    obtain ⟨z, d', s', q1, q2⟩ := hh
    exact ⟨z, d', fnB_rtE (n := 7) (m := [true]) (b := B_law_bent) (ds := [d, p.d, sD xs]) q1, q2⟩
  unfold B_law_bent
  obtain ⟨r, d1, e1, hd1, r0, r1⟩ := take_ok h (m := 8) (by decide) (by decide)
  have s1 : (mAsg 3 (mCall 2 [true] M_law_take (aCons (oOwn 0) (aCons (eO (mP (pC (.int 8)))) (aNil))))) [.b d, .d p.d, .d (sD xs), .no, .no, .no, .no] = .nx [.b d1, .d p.d, .d (sD xs), .d (.int r), .no, .no, .no] := by simp [e1]
  have hlen : fLen [sD xs] = some (.int xs.length) := by unfold sD; rw [v_lenT]; simp
  have gI : ∀ x ∈ xs.map D.int, Gds x := fun x hx => by obtain ⟨i, _, rfl⟩ := List.mem_map.mp hx; exact flat_gds rfl
  by_cases hc : r = 0 ∨ xs = []
  · obtain ⟨o, d2, eo, hd2, ho⟩ := odd_ok hd1
    have e3 : fList [sD xs] = some (.lst (xs.map D.int)) := rfl
    have e4 : fAdd (sD xs) (.tup [.int 0]) = some (.tup (xs.map D.int ++ [.int 0])) := v_addT (by simp; omega)
    have e5 : fSl (sD xs) (some 1) none = some (.tup (cutL (xs.map D.int) (some 1) none)) := rfl
    obtain ⟨M, eM⟩ : ∃ M, M = [D.lst (xs.map D.int), o, .tup (xs.map D.int ++ [.int 0]), .tup (cutL (xs.map D.int) (some 1) none), .non, .tup []] := ⟨_, rfl⟩
    have lM : M.length = 6 := by rw [eM]; rfl
    obtain ⟨z, d3, e6, hd3, hz⟩ := pick_ok hd2 (ds := M) (by omega) (by omega)
    refine ⟨z, d3, [.d p.d, .d (sD xs), .d (.int r), .no, .no, .no], sq s1 (sq_rt ?_), hd3, ?_⟩
    · have hc' : ∀ X : MS, (mIf (mOr (tPu (pOp2 (eqD false) (pVar 3) (pC (.int 0)))) (tPu (pOp2 (eqD false) (pFn fLen (psCons (pVar 2) (psNil))) (pC (.int 0))))) X (mNext)) [.b d1, .d p.d, .d (sD xs), .d (.int r), .no, .no, .no] = X [.b d1, .d p.d, .d (sD xs), .d (.int r), .no, .no, .no] := fun X => by
        by_cases q : r = 0
        · simp [q]
        · rcases hc with hc | hc
          · exact absurd hc q
          · subst hc
            simp [q, hlen]
      rw [hc']
      rw [eM] at e6
      simp [eo, e3, e4, e5, szR_ok, szTup_ok, e6]
    · rw [eM] at hz
      simp only [List.mem_cons, List.not_mem_nil, or_false] at hz
      have hcl := cut_len (xs := xs.map D.int) (lo := some 1) (hi := none)
      rw [List.length_map] at hcl
      rcases hz with rfl | rfl | rfl | rfl | rfl | rfl
      · exact part_lst
      · exact odd_part ho
      · refine part_tup (by simp; omega) fun x hx => ?_
        rcases List.mem_append.mp hx with hx | hx
        · exact gI x hx
        · rw [List.mem_singleton.mp hx]; exact flat_gds rfl
      · exact part_tup (by omega) fun x hx => gI x (cut_sub hx)
      · exact part_flat rfl
      · exact part_tup (by decide) (by simp)
  · have q1 : ¬ r = 0 := fun e => hc (.inl e)
    have q2 : ¬ xs = [] := fun e => hc (.inr e)
    have hl0 : 0 < xs.length := List.length_pos_iff.mpr q2
    obtain ⟨k', d2, e2, hd2, k0, k1⟩ := take_ok hd1 (m := xs.length) (by omega) (by omega)
    obtain ⟨k, rfl⟩ : ∃ k : Nat, k' = k := ⟨k'.toNat, by omega⟩
    have hk : k < xs.length := by omega
    have hkL : k < p.L.length := by omega
    obtain ⟨x, ex⟩ : ∃ x, x = p.L[k] := ⟨_, rfl⟩
    have ek : fAt (.tup (p.L.map Tie.d)) (.int k) = some x.d := by
      rw [at_tup (by simpa using hkL)]; simp [ex]
    have ev := at_ints hk
    obtain ⟨v, evv⟩ : ∃ v, v = xs.getD k 0 := ⟨_, rfl⟩
    rw [← evv] at ev
    obtain ⟨o, d3, eo, hd3, ho⟩ := odd_ok hd2
    obtain ⟨M, eM⟩ : ∃ M, M = [D.int (v + 1), .int (v - 1), .int x.t, .int (x.t + 1), .int (-x.u), .int (-x.u - 1), .int 0, .bl true, .non, o] := ⟨_, rfl⟩
    have lM : M.length = 10 := by rw [eM]; rfl
    obtain ⟨z, d4, e6, hd4, hz⟩ := pick_ok hd3 (ds := M) (by omega) (by omega)
    have gz : Gds z := by
      rw [eM] at hz
      simp only [List.mem_cons, List.not_mem_nil, or_false] at hz
      rcases hz with rfl | rfl | rfl | rfl | rfl | rfl | rfl | rfl | rfl | rfl
      all_goals first | exact flat_gds rfl | exact (odd_part ho).gds
    have c1 : ∀ lo hi, fSl (sD xs) lo hi = some (.tup (cutL (xs.map D.int) lo hi)) := fun _ _ => rfl
    have cl : ∀ lo hi, (cutL (xs.map D.int) lo hi).length ≤ xs.length := fun lo hi => by have := cut_len (xs := xs.map D.int) (lo := lo) (hi := hi); simpa using this
    have a2 : fAdd (.tup (cutL (xs.map D.int) none (some k))) (.tup [z]) = some (.tup (cutL (xs.map D.int) none (some k) ++ [z])) := v_addT (by have := cl none (some k); simp; omega)
    have a3 : fAdd (.tup (cutL (xs.map D.int) none (some k) ++ [z])) (.tup (cutL (xs.map D.int) (some (k + 1)) none)) = some (.tup (cutL (xs.map D.int) none (some k) ++ [z] ++ cutL (xs.map D.int) (some (k + 1)) none)) := v_addT (by have := cl none (some k); have := cl (some (k + 1)) none; simp; omega)
    refine ⟨.tup (cutL (xs.map D.int) none (some k) ++ [z] ++ cutL (xs.map D.int) (some (k + 1)) none), d4, [.d p.d, .d (sD xs), .d (.int r), .d (.int k), .d x.d, .d (.lst M)], ?_, hd4, part_tup (by have := cl none (some k); have := cl (some (k + 1)) none; simp; omega) ?_⟩
    · refine sq s1 ?_
      refine sq (s1 := [.b d1, .d p.d, .d (sD xs), .d (.int r), .no, .no, .no]) (by simp [q1, hlen, q2]) ?_
      refine sq (s1 := [.b d2, .d p.d, .d (sD xs), .d (.int r), .d (.int k), .no, .no]) (by simp [hlen, e2]) ?_
      refine sq (s1 := [.b d2, .d p.d, .d (sD xs), .d (.int r), .d (.int k), .d x.d, .no]) (by simp [pf1, ek]) ?_
      refine sq (s1 := [.b d3, .d p.d, .d (sD xs), .d (.int r), .d (.int k), .d x.d, .d (.lst M)]) (by rw [eM]; simp [ev, tie2, tie3, eo, szR_ok]) ?_
      simp only [List.append_assoc] at a3
      simp [c1, e6, szR_ok, a2, a3]
    · intro y hy
      rcases List.mem_append.mp hy with hy | hy
      · rcases List.mem_append.mp hy with hy | hy
        · exact gI y (cut_sub hy)
        · rw [List.mem_singleton.mp hy]; exact gz
      · exact gI y (cut_sub hy)
theorem pl_int {n : Nat} {i : Int} : pl n (.int i) = true := by cases n <;> rfl
theorem pl_bl {n : Nat} {i : Bool} : pl n (.bl i) = true := by cases n <;> rfl
theorem near_range {p : Plan} (hp : POk p) {xs : List Int} (hs : SOk p xs) {sc h x4 x8 x9 : Sl} {k : Int} (k0 : 0 ≤ k) (k1 : k < p.n) : ∀ (os : List Int) (x7 : Sl), (∀ o ∈ os, o ∈ srt (bes p.L k)) → ∃ x7' : Sl, forL (gSet 7) (mIf (mNot (tPu (pCall 2 (M_law_same 12) (psCons (pCall 4 M_room (psCons (pVar 3) (psCons (pVar 5) (psCons (pVar 6) (psCons (pVar 7) (psNil)))))) (psCons (pCall 4 M_law_room (psCons (pVar 2) (psCons (pVar 5) (psCons (pVar 6) (psCons (pVar 7) (psNil)))))) (psNil)))))) (mRet (mP (pC (.bl false)))) (mNext)) (os.map D.int) [sc, h, .d p.d, .d (webD p), x4, .d (sD xs), .d (.int k), x7, x8, x9] = .nx [sc, h, .d p.d, .d (webD p), x4, .d (sD xs), .d (.int k), x7', x8, x9]
  | [], x7, _ => ⟨x7, rfl⟩
  | o :: os, x7, ho => by
    obtain ⟨x7', e⟩ := near_range hp hs (sc := sc) (h := h) (x4 := x4) (x8 := x8) (x9 := x9) k0 k1 os (.d (.int o)) fun z hz => ho z (List.mem_cons_of_mem _ hz)
    have hm := ho o (List.mem_cons_self ..)
    obtain ⟨q, hq⟩ := bes_ix hp hm
    have e1 := proom_ok hp hs k0 k1 hm
    have e2 := room_ok hp hs.len hq
    have e3 := same_refl 0 12 (.int (rom p.L xs k o)) pl_int (by decide)
    refine ⟨x7', forL_cons (s1 := [sc, h, .d p.d, .d (webD p), x4, .d (sD xs), .d (.int k), .d (.int o), x8, x9]) (s2 := [sc, h, .d p.d, .d (webD p), x4, .d (sD xs), .d (.int k), .d (.int o), x8, x9]) rfl ?_ e⟩
    simp [e1, e2, e3]
theorem body {p : Plan} (hp : POk p) (h63 : p.L.length ≤ 63) {sc h : D} (hh : Hand h) {x4 x5 x6 x7 x8 x9 : Sl} : ∃ h' x5' x6' x7' x8' x9', Hand h' ∧ (mSeq (mAsg 5 (mCall 2 [true] M_law_some_stream (aCons (oOwn 1) (aCons (eO (mP (pVar 2))) (aNil)))))
    (mSeq (mIf (mOr (tPu (pOp2 fIsNot (pCall 2 M_is_stream (psCons (pVar 3) (psCons (pVar 5) (psNil)))) (pC (.bl true)))) (mNot (tPu (pCall 2 M_law_is_stream (psCons (pVar 2) (psCons (pVar 5) (psNil))))))) (mRet (mP (pC (.bl false)))) (mNext))
    (mSeq (mIf (mNot (tPu (pCall 2 (M_law_same 12) (psCons (pCall 2 M_worth (psCons (pVar 3) (psCons (pVar 5) (psNil)))) (psCons (pCall 2 M_law_worth (psCons (pVar 2) (psCons (pVar 5) (psNil)))) (psNil)))))) (mRet (mP (pC (.bl false)))) (mNext))
    (mSeq (mFor (iRange1 (aCons (eO (mP (pOp2 fAt (pVar 2) (pC (.int 0))))) (aNil))) (gSet 6) (mFor (iSeq (mP (pCall 2 M_law_near (psCons (pVar 2) (psCons (pVar 6) (psNil)))))) (gSet 7) (mIf (mNot (tPu (pCall 2 (M_law_same 12) (psCons (pCall 4 M_room (psCons (pVar 3) (psCons (pVar 5) (psCons (pVar 6) (psCons (pVar 7) (psNil)))))) (psCons (pCall 4 M_law_room (psCons (pVar 2) (psCons (pVar 5) (psCons (pVar 6) (psCons (pVar 7) (psNil)))))) (psNil)))))) (mRet (mP (pC (.bl false)))) (mNext))))
    (mFor (iRange1 (aCons (eO (mP (pC (.int 3)))) (aNil))) (gSet 8) (mSeq (mAsg 9 (mCall 3 [true] M_law_bent (aCons (oOwn 1) (aCons (eO (mP (pVar 2))) (aCons (eO (mP (pVar 5))) (aNil))))))
    (mIf (mNot (tPu (pCall 2 (M_law_same 12) (psCons (pCall 2 M_is_stream (psCons (pVar 3) (psCons (pVar 9) (psNil)))) (psCons (pCall 2 M_law_is_stream (psCons (pVar 2) (psCons (pVar 9) (psNil)))) (psNil)))))) (mRet (mP (pC (.bl false)))) (mNext)))))))) [.d sc, .b h, .d p.d, .d (webD p), x4, x5, x6, x7, x8, x9] = .nx [.d sc, .b h', .d p.d, .d (webD p), x4, x5', x6', x7', x8', x9'] := by
  have n2 := hp.n2
  have n10 := hp.n10
  obtain ⟨xs, h1, es, hh1, hs⟩ := some_ok hp hh
  have hpart := part_s (xs := xs) (by have := hs.len; have := hp.len; omega)
  have i1 := is_stream_ok hp hpart
  have i2 := law_str hp hpart
  rw [strB_ok hp hs] at i1 i2
  have w1 := worth_ok hp hs
  have w2 := lworth_ok hp hs.len
  have w3 := same_refl 0 12 (.int (netT p.L xs p.m)) pl_int (by decide)
  obtain ⟨s', el1, y6, y7, rfl⟩ := forL_inv (g := gSet 6) (b := (mFor (iSeq (mP (pCall 2 M_law_near (psCons (pVar 2) (psCons (pVar 6) (psNil)))))) (gSet 7) (mIf (mNot (tPu (pCall 2 (M_law_same 12) (psCons (pCall 4 M_room (psCons (pVar 3) (psCons (pVar 5) (psCons (pVar 6) (psCons (pVar 7) (psNil)))))) (psCons (pCall 4 M_law_room (psCons (pVar 2) (psCons (pVar 5) (psCons (pVar 6) (psCons (pVar 7) (psNil)))))) (psNil)))))) (mRet (mP (pC (.bl false)))) (mNext)))) (fun s => ∃ y6 y7, s = [.d sc, .b h1, .d p.d, .d (webD p), x4, .d (sD xs), y6, y7, x8, x9]) (rangeD 0 p.n) [.d sc, .b h1, .d p.d, .d (webD p), x4, .d (sD xs), x6, x7, x8, x9] (fun d hd s ⟨y6, y7, e⟩ => by
    subst e
    obtain ⟨k, rfl, k0, k1⟩ := mem_rangeD hd
    obtain ⟨x7', e⟩ := near_range hp hs (sc := .d sc) (h := .b h1) (x4 := x4) (x8 := x8) (x9 := x9) k0 k1 (srt (bes p.L k)) y7 fun o ho => ho
    exact ⟨[.d sc, .b h1, .d p.d, .d (webD p), x4, .d (sD xs), .d (.int k), y7, x8, x9], rfl, _, for_eq (ds := (srt (bes p.L k)).map D.int) (by simp [lnear_ok hp]) e, _, _, rfl⟩) ⟨x6, x7, rfl⟩
  obtain ⟨s', el2, h2, y8, y9, rfl, hh2⟩ := forL_inv (g := gSet 8) (b := (mSeq (mAsg 9 (mCall 3 [true] M_law_bent (aCons (oOwn 1) (aCons (eO (mP (pVar 2))) (aCons (eO (mP (pVar 5))) (aNil))))))
    (mIf (mNot (tPu (pCall 2 (M_law_same 12) (psCons (pCall 2 M_is_stream (psCons (pVar 3) (psCons (pVar 9) (psNil)))) (psCons (pCall 2 M_law_is_stream (psCons (pVar 2) (psCons (pVar 9) (psNil)))) (psNil)))))) (mRet (mP (pC (.bl false)))) (mNext)))) (fun s => ∃ h2 y8 y9, s = [.d sc, .b h2, .d p.d, .d (webD p), x4, .d (sD xs), y6, y7, y8, y9] ∧ Hand h2) (rangeD 0 3) [.d sc, .b h1, .d p.d, .d (webD p), x4, .d (sD xs), y6, y7, x8, x9] (fun d hd s ⟨h2, y8, y9, e, hh2⟩ => by
    subst e
    obtain ⟨z, h3, eb, hh3, hz⟩ := bent_ok hp h63 hs hh2
    have j1 := is_stream_ok hp hz
    have j2 := law_str hp hz
    have j3 := same_refl 0 12 (.bl (strB p z)) pl_bl (by decide)
    refine ⟨[.d sc, .b h2, .d p.d, .d (webD p), x4, .d (sD xs), y6, y7, .d d, y9], rfl, [.d sc, .b h3, .d p.d, .d (webD p), x4, .d (sD xs), y6, y7, .d d, .d z], ?_, h3, _, _, rfl, hh3⟩
    refine sq (s1 := [.d sc, .b h3, .d p.d, .d (webD p), x4, .d (sD xs), y6, y7, .d d, .d z]) (by simp [eb]) ?_
    simp [j1, j2, j3]) ⟨h1, x8, x9, rfl, hh1⟩
  refine ⟨h2, .d (sD xs), y6, y7, y8, y9, hh2, ?_⟩
  refine sq (s1 := [.d sc, .b h1, .d p.d, .d (webD p), x4, .d (sD xs), x6, x7, x8, x9]) (by simp [es]) ?_
  have hnb : ∀ d : D, ∀ b : Bool, fIsNot d (.bl b) = some (.bl (!(isBl b d))) := fun d b => by cases d <;> rfl
  refine sq (s1 := [.d sc, .b h1, .d p.d, .d (webD p), x4, .d (sD xs), x6, x7, x8, x9]) (by simp [i1, i2, hnb, isBl]) ?_
  refine sq (s1 := [.d sc, .b h1, .d p.d, .d (webD p), x4, .d (sD xs), x6, x7, x8, x9]) (by simp [w1, w2, w3]) ?_
  refine sq (for_eq (ds := rangeD 0 p.n) (by simp -implicitDefEqProofs [pf0]; exact rgR1_ok (by omega) (Int.lt_of_le_of_lt n10 (by decide))) el1) ?_
  exact for_eq (ds := rangeD 0 3) (by simp -implicitDefEqProofs; exact rgR1_ok (by decide) (by decide)) el2
theorem law_true (ns : List Int) (hl : ns.length ≤ 63) : ∃ r, M_law [.lst (ns.map .int)] = .rt (.bl true) r := by
  obtain ⟨h, eh, hh⟩ := hand_ok ns hl
  obtain ⟨n, h1, en, hh1, n2, n10⟩ := sizes_ok hh
  obtain ⟨p, h2, ep, hh2, hp, rfl⟩ := web_ok hh1 n2 n10
  have ew := webof_ok hp.p
  suffices hS : ∃ s, B_law [.d (.lst (ns.map .int)), .no, .no, .no, .no, .no, .no, .no, .no, .no] = .rt (.bl true) s by
    obtain ⟨s, e⟩ := hS
    exact ⟨_, fnB_rtE (n := 10) (m := []) (ds := [.lst (ns.map .int)]) e⟩
  unfold B_law
  obtain ⟨s', el, h3, x4, x5, x6, x7, x8, x9, rfl, hh3⟩ := forL_inv (g := gSet 4) (b := (mSeq (mAsg 5 (mCall 2 [true] M_law_some_stream (aCons (oOwn 1) (aCons (eO (mP (pVar 2))) (aNil)))))
    (mSeq (mIf (mOr (tPu (pOp2 fIsNot (pCall 2 M_is_stream (psCons (pVar 3) (psCons (pVar 5) (psNil)))) (pC (.bl true)))) (mNot (tPu (pCall 2 M_law_is_stream (psCons (pVar 2) (psCons (pVar 5) (psNil))))))) (mRet (mP (pC (.bl false)))) (mNext))
    (mSeq (mIf (mNot (tPu (pCall 2 (M_law_same 12) (psCons (pCall 2 M_worth (psCons (pVar 3) (psCons (pVar 5) (psNil)))) (psCons (pCall 2 M_law_worth (psCons (pVar 2) (psCons (pVar 5) (psNil)))) (psNil)))))) (mRet (mP (pC (.bl false)))) (mNext))
    (mSeq (mFor (iRange1 (aCons (eO (mP (pOp2 fAt (pVar 2) (pC (.int 0))))) (aNil))) (gSet 6) (mFor (iSeq (mP (pCall 2 M_law_near (psCons (pVar 2) (psCons (pVar 6) (psNil)))))) (gSet 7) (mIf (mNot (tPu (pCall 2 (M_law_same 12) (psCons (pCall 4 M_room (psCons (pVar 3) (psCons (pVar 5) (psCons (pVar 6) (psCons (pVar 7) (psNil)))))) (psCons (pCall 4 M_law_room (psCons (pVar 2) (psCons (pVar 5) (psCons (pVar 6) (psCons (pVar 7) (psNil)))))) (psNil)))))) (mRet (mP (pC (.bl false)))) (mNext))))
    (mFor (iRange1 (aCons (eO (mP (pC (.int 3)))) (aNil))) (gSet 8) (mSeq (mAsg 9 (mCall 3 [true] M_law_bent (aCons (oOwn 1) (aCons (eO (mP (pVar 2))) (aCons (eO (mP (pVar 5))) (aNil))))))
    (mIf (mNot (tPu (pCall 2 (M_law_same 12) (psCons (pCall 2 M_is_stream (psCons (pVar 3) (psCons (pVar 9) (psNil)))) (psCons (pCall 2 M_law_is_stream (psCons (pVar 2) (psCons (pVar 9) (psNil)))) (psNil)))))) (mRet (mP (pC (.bl false)))) (mNext)))))))))
    (fun s => ∃ h3 x4 x5 x6 x7 x8 x9, s = [.d (.lst (ns.map .int)), .b h3, .d p.d, .d (webD p), x4, x5, x6, x7, x8, x9] ∧ Hand h3) (rangeD 0 4) [.d (.lst (ns.map .int)), .b h2, .d p.d, .d (webD p), .no, .no, .no, .no, .no, .no] (fun d hd s ⟨h3, x4, x5, x6, x7, x8, x9, es, hh3⟩ => by
      subst es
      obtain ⟨h', y5, y6, y7, y8, y9, hh', e⟩ := body hp.p hp.len (sc := .lst (ns.map .int)) hh3 (x4 := .d d) (x5 := x5) (x6 := x6) (x7 := x7) (x8 := x8) (x9 := x9)
      exact ⟨_, rfl, _, e, h', _, _, _, _, _, _, rfl, hh'⟩) ⟨h2, .no, .no, .no, .no, .no, .no, rfl, hh2⟩
  refine ⟨[.d (.lst (ns.map .int)), .b h3, .d p.d, .d (webD p), x4, x5, x6, x7, x8, x9], ?_⟩
  refine sq (s1 := [.d (.lst (ns.map .int)), .b h, .no, .no, .no, .no, .no, .no, .no, .no]) ?hand ?_
  case hand =>
    rw [ev_asgB]
    have : mCallF 1 [] M_law_hand (aCons (eO (mP (pVar 0))) aNil) [.d (.lst (ns.map .int)), .no, .no, .no, .no, .no, .no, .no, .no, .no] = .ok h [.d (.lst (ns.map .int)), .no, .no, .no, .no, .no, .no, .no, .no, .no] := by
      unfold mCallF
      rw [show (aCons (eO (mP (pVar 0))) aNil) [.d (.lst (ns.map .int)), .no, .no, .no, .no, .no, .no, .no, .no, .no] = .ok [.d (.lst (ns.map .int))] [.d (.lst (ns.map .int)), .no, .no, .no, .no, .no, .no, .no, .no, .no] from by simp]
      simp [argD, lent, eh, back]
    rw [this]
    rfl
  refine sq (s1 := [.d (.lst (ns.map .int)), .b h2, .d p.d, .no, .no, .no, .no, .no, .no, .no]) (by simp [en, ep]) ?_
  refine sq (s1 := [.d (.lst (ns.map .int)), .b h2, .d p.d, .d (webD p), .no, .no, .no, .no, .no, .no]) (by simp [ew]) ?_
  refine sq (for_eq (ds := rangeD 0 4) (s1 := [.d (.lst (ns.map .int)), .b h2, .d p.d, .d (webD p), .no, .no, .no, .no, .no, .no]) (by simp -implicitDefEqProofs; exact rgR1_ok (by decide) (by decide)) el) ?_
  have e3 := same_refl 4 12 p.d pl_plan (by decide)
  unfold Plan.d at e3 ⊢
  simp [w_many, w_ties, w_spring, w_mouth, szTup_ok, e3]
end Law
namespace Law
open PySem PySem.Spec PyProof.Rows L2 Mir
def fn : List He.DefD := [
  (⟨("Web", some "__eq__"), "__eq__", "Web.__eq__", defArgs (mem 15 1), defBody (mem 15 1), defScope (mem 15 1), [], []⟩ : He.DefD), 
  (⟨("_law_hand", none), "_law_hand", "_law_hand", defArgs (top 30), defBody (top 30), defScope (top 30), [], []⟩ : He.DefD), 
  (⟨("_law_take", none), "_law_take", "_law_take", defArgs (top 31), defBody (top 31), defScope (top 31), [], []⟩ : He.DefD), 
  (⟨("_law_pick", none), "_law_pick", "_law_pick", defArgs (top 32), defBody (top 32), defScope (top 32), [], []⟩ : He.DefD), 
  (⟨("_law_units", none), "_law_units", "_law_units", defArgs (top 37), defBody (top 37), defScope (top 37), [], []⟩ : He.DefD), 
  (⟨("_law_web", none), "_law_web", "_law_web", defArgs (top 38), defBody (top 38), defScope (top 38), [], []⟩ : He.DefD), 
  (⟨("is_integer", none), "is_integer", "is_integer", defArgs (top 7), defBody (top 7), defScope (top 7), [], []⟩ : He.DefD), 
  (⟨("is_within", none), "is_within", "is_within", defArgs (top 8), defBody (top 8), defScope (top 8), [], []⟩ : He.DefD), 
  (⟨("is_below", none), "is_below", "is_below", defArgs (top 9), defBody (top 9), defScope (top 9), [], []⟩ : He.DefD), 
  (⟨("is_sized", none), "is_sized", "is_sized", defArgs (top 10), defBody (top 10), defScope (top 10), [], []⟩ : He.DefD), 
  (⟨("is_tie", none), "is_tie", "is_tie", defArgs (top 14), defBody (top 14), defScope (top 14), [], []⟩ : He.DefD), 
  (⟨("beside", none), "beside", "beside", defArgs (top 16), defBody (top 16), defScope (top 16), [], []⟩ : He.DefD), 
  (⟨("Web", some "__init__"), "__init__", "Web.__init__", defArgs (mem 15 0), defBody (mem 15 0), defScope (mem 15 0), [], []⟩ : He.DefD), 
  (⟨("_law_web_of", none), "_law_web_of", "_law_web_of", defArgs (top 39), defBody (top 39), defScope (top 39), [], []⟩ : He.DefD), 
  (⟨("_law_is_integer", none), "_law_is_integer", "_law_is_integer", defArgs (top 33), defBody (top 33), defScope (top 33), [], []⟩ : He.DefD), 
  (⟨("_law_same", none), "_law_same", "_law_same", defArgs (top 35), defBody (top 35), defScope (top 35), [], []⟩ : He.DefD), 
  (⟨("_law_sizes", none), "_law_sizes", "_law_sizes", defArgs (top 55), defBody (top 55), defScope (top 55), [], []⟩ : He.DefD), 
  (⟨("_law_near", none), "_law_near", "_law_near", defArgs (top 40), defBody (top 40), defScope (top 40), [], []⟩ : He.DefD), 
  (⟨("_law_at", none), "_law_at", "_law_at", defArgs (top 41), defBody (top 41), defScope (top 41), [], []⟩ : He.DefD), 
  (⟨("_law_lets", none), "_law_lets", "_law_lets", defArgs (top 42), defBody (top 42), defScope (top 42), [], []⟩ : He.DefD), 
  (⟨("_law_flow", none), "_law_flow", "_law_flow", defArgs (top 43), defBody (top 43), defScope (top 43), [], []⟩ : He.DefD), 
  (⟨("_law_room", none), "_law_room", "_law_room", defArgs (top 44), defBody (top 44), defScope (top 44), [], []⟩ : He.DefD), 
  (⟨("_law_reach", none), "_law_reach", "_law_reach", defArgs (top 47), defBody (top 47), defScope (top 47), [], []⟩ : He.DefD), 
  (⟨("_law_way", none), "_law_way", "_law_way", defArgs (top 48), defBody (top 48), defScope (top 48), [], []⟩ : He.DefD), 
  (⟨("_law_sent", none), "_law_sent", "_law_sent", defArgs (top 49), defBody (top 49), defScope (top 49), [], []⟩ : He.DefD), 
  (⟨("_law_least_room", none), "_law_least_room", "_law_least_room", defArgs (top 50), defBody (top 50), defScope (top 50), [], []⟩ : He.DefD), 
  (⟨("_law_greatest", none), "_law_greatest", "_law_greatest", defArgs (top 51), defBody (top 51), defScope (top 51), [], []⟩ : He.DefD), 
  (⟨("_law_ring", none), "_law_ring", "_law_ring", defArgs (top 53), defBody (top 53), defScope (top 53), [], []⟩ : He.DefD), 
  (⟨("_law_some_stream", none), "_law_some_stream", "_law_some_stream", defArgs (top 54), defBody (top 54), defScope (top 54), [], []⟩ : He.DefD), 
  (⟨("_law_odd", none), "_law_odd", "_law_odd", defArgs (top 36), defBody (top 36), defScope (top 36), [], []⟩ : He.DefD), 
  (⟨("_law_bent", none), "_law_bent", "_law_bent", defArgs (top 56), defBody (top 56), defScope (top 56), [], []⟩ : He.DefD), 
  (⟨("net_of", none), "net_of", "net_of", defArgs (top 20), defBody (top 20), defScope (top 20), [], []⟩ : He.DefD), 
  (⟨("is_right_stream", none), "is_right_stream", "is_right_stream", defArgs (top 21), defBody (top 21), defScope (top 21), [], []⟩ : He.DefD), 
  (⟨("is_stream", none), "is_stream", "is_stream", defArgs (top 22), defBody (top 22), defScope (top 22), [], []⟩ : He.DefD), 
  (⟨("_law_is_within", none), "_law_is_within", "_law_is_within", defArgs (top 34), defBody (top 34), defScope (top 34), [], []⟩ : He.DefD), 
  (⟨("_law_come", none), "_law_come", "_law_come", defArgs (top 45), defBody (top 45), defScope (top 45), [], []⟩ : He.DefD), 
  (⟨("_law_is_stream", none), "_law_is_stream", "_law_is_stream", defArgs (top 46), defBody (top 46), defScope (top 46), [], []⟩ : He.DefD), 
  (⟨("check_stream", none), "check_stream", "check_stream", defArgs (top 23), defBody (top 23), defScope (top 23), [], []⟩ : He.DefD), 
  (⟨("worth_of", none), "worth_of", "worth_of", defArgs (top 24), defBody (top 24), defScope (top 24), [], []⟩ : He.DefD), 
  (⟨("worth", none), "worth", "worth", defArgs (top 25), defBody (top 25), defScope (top 25), [], []⟩ : He.DefD), 
  (⟨("_law_worth", none), "_law_worth", "_law_worth", defArgs (top 52), defBody (top 52), defScope (top 52), [], []⟩ : He.DefD), 
  (⟨("check_house", none), "check_house", "check_house", defArgs (top 17), defBody (top 17), defScope (top 17), [], []⟩ : He.DefD), 
  (⟨("check_tie", none), "check_tie", "check_tie", defArgs (top 18), defBody (top 18), defScope (top 18), [], []⟩ : He.DefD), 
  (⟨("units_between", none), "units_between", "units_between", defArgs (top 26), defBody (top 26), defScope (top 26), [], []⟩ : He.DefD), 
  (⟨("room_of", none), "room_of", "room_of", defArgs (top 27), defBody (top 27), defScope (top 27), [], []⟩ : He.DefD), 
  (⟨("room", none), "room", "room", defArgs (top 28), defBody (top 28), defScope (top 28), [], []⟩ : He.DefD), 
  (⟨("law", none), "law", "law", defArgs (top 57), defBody (top 57), defScope (top 57), [], []⟩ : He.DefD), 
  (⟨("BadWeb", some "__init__"), "__init__", "BadWeb.__init__", defArgs (mem 2 0), defBody (mem 2 0), defScope (mem 2 0), [], []⟩ : He.DefD)]
def chkL (K : PySem.W.Frag) : List Bool := [
  (He.Fa.glo "_law_hand").ok K, 
  (He.Fa.glo "_law_take").ok K, 
  (He.Fa.glo "_law_pick").ok K, 
  (He.Fa.glo "_law_units").ok K, 
  (He.Fa.glo "_law_web").ok K, 
  (He.Fa.glo "is_integer").ok K, 
  (He.Fa.glo "is_within").ok K, 
  (He.Fa.glo "is_below").ok K, 
  (He.Fa.glo "is_sized").ok K, 
  (He.Fa.glo "is_tie").ok K, 
  (He.Fa.glo "beside").ok K, 
  (He.Fa.glo "_law_web_of").ok K, 
  (He.Fa.glo "_law_is_integer").ok K, 
  (He.Fa.glo "_law_same").ok K, 
  (He.Fa.glo "_law_sizes").ok K, 
  (He.Fa.glo "_law_near").ok K, 
  (He.Fa.glo "_law_at").ok K, 
  (He.Fa.glo "_law_lets").ok K, 
  (He.Fa.glo "_law_flow").ok K, 
  (He.Fa.glo "_law_room").ok K, 
  (He.Fa.glo "_law_reach").ok K, 
  (He.Fa.glo "_law_way").ok K, 
  (He.Fa.glo "_law_sent").ok K, 
  (He.Fa.glo "_law_least_room").ok K, 
  (He.Fa.glo "_law_greatest").ok K, 
  (He.Fa.glo "_law_ring").ok K, 
  (He.Fa.glo "_law_some_stream").ok K, 
  (He.Fa.glo "_law_odd").ok K, 
  (He.Fa.glo "_law_bent").ok K, 
  (He.Fa.glo "net_of").ok K, 
  (He.Fa.glo "is_right_stream").ok K, 
  (He.Fa.glo "is_stream").ok K, 
  (He.Fa.glo "_law_is_within").ok K, 
  (He.Fa.glo "_law_come").ok K, 
  (He.Fa.glo "_law_is_stream").ok K, 
  (He.Fa.glo "check_stream").ok K, 
  (He.Fa.glo "worth_of").ok K, 
  (He.Fa.glo "worth").ok K, 
  (He.Fa.glo "_law_worth").ok K, 
  (He.Fa.glo "check_house").ok K, 
  (He.Fa.glo "check_tie").ok K, 
  (He.Fa.glo "units_between").ok K, 
  (He.Fa.glo "room_of").ok K, 
  (He.Fa.glo "room").ok K, 
  (He.Fa.glo "law").ok K, 
  (He.Fa.glo "BadWeb").ok K, 
  (He.Fa.glo "NoHouse").ok K, 
  (He.Fa.glo "NoStream").ok K, 
  (He.Fa.glo "NoTie").ok K, 
  (He.Fa.glo "Web").ok K, 
  (He.Fa.free "all").ok K, 
  (He.Fa.free "bool").ok K, 
  (He.Fa.free "enumerate").ok K, 
  (He.Fa.free "int").ok K, 
  (He.Fa.free "isinstance").ok K, 
  (He.Fa.free "len").ok K, 
  (He.Fa.free "list").ok K, 
  (He.Fa.free "max").ok K, 
  (He.Fa.free "min").ok K, 
  (He.Fa.free "range").ok K, 
  (He.Fa.free "set").ok K, 
  (He.Fa.free "sorted").ok K, 
  (He.Fa.free "str").ok K, 
  (He.Fa.free "sum").ok K, 
  (He.Fa.free "tuple").ok K, 
  (He.Fa.free "zip").ok K, 
  (He.Fa.int "MOST_HOUSES" 10).ok K, 
  (He.Fa.int "MOST_LETS" 1000000).ok K, 
  (He.Fa.mkr "Web").ok K, 
  (He.Fa.exc "NoHouse").ok K, 
  (He.Fa.exc "NoStream").ok K, 
  (He.Fa.exc "NoTie").ok K, 
  oexB K (He.ga K "BadWeb"), 
  (He.eqO (PySem.W.findIn K (.ref (He.ga K "BadWeb")) "__init__") (some (some (.ref (He.fAd K ("BadWeb", some "__init__"))))) && decide (PySem.W.typeIn K (.ref (He.fAd K ("BadWeb", some "__init__"))) = some (.type "function"))), 
  He.eqO (PySem.W.findIn K (.ref (He.ga K "BadWeb")) "part") (some none), 
  fldB K fldL, 
  errsB K errL, 
  isiFB K (.ref (He.ga K "Web")) [] ["NoneType", "bool", "int", "str", "tuple", "list", "dict"] ["Web"] [], 
  isiFB K (.type "int") ["int", "bool"] ["NoneType", "str", "tuple", "list", "dict"] [] ["Web"], 
  isiFB K (.type "bool") ["bool"] ["NoneType", "int", "str", "tuple", "list", "dict"] [] ["Web"], 
  isiFB K (.type "tuple") ["tuple"] ["NoneType", "bool", "int", "str", "list", "dict"] [] ["Web"], 
  isiFB K (.type "str") ["str"] ["NoneType", "bool", "int", "tuple", "list", "dict"] [] ["Web"], 
  isiFB K (.type "list") ["list"] ["NoneType", "bool", "int", "str", "tuple", "dict"] [] ["Web"]]
def chk (K : PySem.W.Frag) : Bool := allB (chkL K)
theorem gi_Web {K : PySem.W.Frag} {h : Heap} {mg : Str → Option Value} (X : K.In h) (G : h.Ns mainGlobals mg) (c : allB (chkL K) = true) : ∀ c0 : Str, c0 ∈ (["Web"] : List Str) ∨ c0 ∈ ([] : List Str) → mg c0 = some (.ref (He.ga K c0)) := by
  intro c0 hc
  rcases hc with hc | hc
  · rcases List.mem_cons.mp hc with rfl | hc
    · exact He.glo_ok X G (allB_get c 49 rfl)
    cases hc
  · cases hc

theorem gi_int {K : PySem.W.Frag} {h : Heap} {mg : Str → Option Value} (X : K.In h) (G : h.Ns mainGlobals mg) (c : allB (chkL K) = true) : ∀ c0 : Str, c0 ∈ ([] : List Str) ∨ c0 ∈ (["Web"] : List Str) → mg c0 = some (.ref (He.ga K c0)) := by
  intro c0 hc
  rcases hc with hc | hc
  · cases hc
  · rcases List.mem_cons.mp hc with rfl | hc
    · exact He.glo_ok X G (allB_get c 49 rfl)
    cases hc

theorem gi_bool {K : PySem.W.Frag} {h : Heap} {mg : Str → Option Value} (X : K.In h) (G : h.Ns mainGlobals mg) (c : allB (chkL K) = true) : ∀ c0 : Str, c0 ∈ ([] : List Str) ∨ c0 ∈ (["Web"] : List Str) → mg c0 = some (.ref (He.ga K c0)) := by
  intro c0 hc
  rcases hc with hc | hc
  · cases hc
  · rcases List.mem_cons.mp hc with rfl | hc
    · exact He.glo_ok X G (allB_get c 49 rfl)
    cases hc

theorem gi_tuple {K : PySem.W.Frag} {h : Heap} {mg : Str → Option Value} (X : K.In h) (G : h.Ns mainGlobals mg) (c : allB (chkL K) = true) : ∀ c0 : Str, c0 ∈ ([] : List Str) ∨ c0 ∈ (["Web"] : List Str) → mg c0 = some (.ref (He.ga K c0)) := by
  intro c0 hc
  rcases hc with hc | hc
  · cases hc
  · rcases List.mem_cons.mp hc with rfl | hc
    · exact He.glo_ok X G (allB_get c 49 rfl)
    cases hc

theorem gi_str {K : PySem.W.Frag} {h : Heap} {mg : Str → Option Value} (X : K.In h) (G : h.Ns mainGlobals mg) (c : allB (chkL K) = true) : ∀ c0 : Str, c0 ∈ ([] : List Str) ∨ c0 ∈ (["Web"] : List Str) → mg c0 = some (.ref (He.ga K c0)) := by
  intro c0 hc
  rcases hc with hc | hc
  · cases hc
  · rcases List.mem_cons.mp hc with rfl | hc
    · exact He.glo_ok X G (allB_get c 49 rfl)
    cases hc

theorem gi_list {K : PySem.W.Frag} {h : Heap} {mg : Str → Option Value} (X : K.In h) (G : h.Ns mainGlobals mg) (c : allB (chkL K) = true) : ∀ c0 : Str, c0 ∈ ([] : List Str) ∨ c0 ∈ (["Web"] : List Str) → mg c0 = some (.ref (He.ga K c0)) := by
  intro c0 hc
  rcases hc with hc | hc
  · cases hc
  · rcases List.mem_cons.mp hc with rfl | hc
    · exact He.glo_ok X G (allB_get c 49 rfl)
    cases hc

theorem gall_fld {K : PySem.W.Frag} {h : Heap} {mg : Str → Option Value} (X : K.In h) (G : h.Ns mainGlobals mg) (c : allB (chkL K) = true) : ∀ p ∈ fldL, mg p.1 = some (.ref (He.ga K p.1)) := by
  intro p hp
  rcases List.mem_cons.mp hp with rfl | hp
  · exact He.glo_ok X G (allB_get c 49 rfl)
  rcases List.mem_cons.mp hp with rfl | hp
  · exact He.glo_ok X G (allB_get c 49 rfl)
  rcases List.mem_cons.mp hp with rfl | hp
  · exact He.glo_ok X G (allB_get c 49 rfl)
  rcases List.mem_cons.mp hp with rfl | hp
  · exact He.glo_ok X G (allB_get c 49 rfl)
  rcases List.mem_cons.mp hp with rfl | hp
  · exact He.glo_ok X G (allB_get c 49 rfl)
  rcases List.mem_cons.mp hp with rfl | hp
  · exact He.glo_ok X G (allB_get c 49 rfl)
  · cases hp
theorem gall_err {K : PySem.W.Frag} {h : Heap} {mg : Str → Option Value} (X : K.In h) (G : h.Ns mainGlobals mg) (c : allB (chkL K) = true) : ∀ p ∈ errL, mg p.1 = some (.ref (He.ga K p.1)) := by
  intro p hp
  cases hp
theorem facts {K : PySem.W.Frag} {h0 : Heap} {mg : Str → Option Value} (X : K.In h0) (G : h0.Ns mainGlobals mg) (s : SaysM chk fn K) : Nonempty (Tx K mg) := by
  have c : allB (chkL K) = true := s.check
  obtain ⟨fd_Web_eq, F_Web_eq⟩ := s.def_ 0 rfl
  obtain ⟨fd_law_hand, F_law_hand⟩ := s.def_ 1 rfl
  obtain ⟨fd_law_take, F_law_take⟩ := s.def_ 2 rfl
  obtain ⟨fd_law_pick, F_law_pick⟩ := s.def_ 3 rfl
  obtain ⟨fd_law_units, F_law_units⟩ := s.def_ 4 rfl
  obtain ⟨fd_law_web, F_law_web⟩ := s.def_ 5 rfl
  obtain ⟨fd_is_integer, F_is_integer⟩ := s.def_ 6 rfl
  obtain ⟨fd_is_within, F_is_within⟩ := s.def_ 7 rfl
  obtain ⟨fd_is_below, F_is_below⟩ := s.def_ 8 rfl
  obtain ⟨fd_is_sized, F_is_sized⟩ := s.def_ 9 rfl
  obtain ⟨fd_is_tie, F_is_tie⟩ := s.def_ 10 rfl
  obtain ⟨fd_beside, F_beside⟩ := s.def_ 11 rfl
  obtain ⟨fd_Web_init, F_Web_init⟩ := s.def_ 12 rfl
  obtain ⟨fd_law_web_of, F_law_web_of⟩ := s.def_ 13 rfl
  obtain ⟨fd_law_is_integer, F_law_is_integer⟩ := s.def_ 14 rfl
  obtain ⟨fd_law_same, F_law_same⟩ := s.def_ 15 rfl
  obtain ⟨fd_law_sizes, F_law_sizes⟩ := s.def_ 16 rfl
  obtain ⟨fd_law_near, F_law_near⟩ := s.def_ 17 rfl
  obtain ⟨fd_law_at, F_law_at⟩ := s.def_ 18 rfl
  obtain ⟨fd_law_lets, F_law_lets⟩ := s.def_ 19 rfl
  obtain ⟨fd_law_flow, F_law_flow⟩ := s.def_ 20 rfl
  obtain ⟨fd_law_room, F_law_room⟩ := s.def_ 21 rfl
  obtain ⟨fd_law_reach, F_law_reach⟩ := s.def_ 22 rfl
  obtain ⟨fd_law_way, F_law_way⟩ := s.def_ 23 rfl
  obtain ⟨fd_law_sent, F_law_sent⟩ := s.def_ 24 rfl
  obtain ⟨fd_law_least_room, F_law_least_room⟩ := s.def_ 25 rfl
  obtain ⟨fd_law_greatest, F_law_greatest⟩ := s.def_ 26 rfl
  obtain ⟨fd_law_ring, F_law_ring⟩ := s.def_ 27 rfl
  obtain ⟨fd_law_some_stream, F_law_some_stream⟩ := s.def_ 28 rfl
  obtain ⟨fd_law_odd, F_law_odd⟩ := s.def_ 29 rfl
  obtain ⟨fd_law_bent, F_law_bent⟩ := s.def_ 30 rfl
  obtain ⟨fd_net_of, F_net_of⟩ := s.def_ 31 rfl
  obtain ⟨fd_is_right_stream, F_is_right_stream⟩ := s.def_ 32 rfl
  obtain ⟨fd_is_stream, F_is_stream⟩ := s.def_ 33 rfl
  obtain ⟨fd_law_is_within, F_law_is_within⟩ := s.def_ 34 rfl
  obtain ⟨fd_law_come, F_law_come⟩ := s.def_ 35 rfl
  obtain ⟨fd_law_is_stream, F_law_is_stream⟩ := s.def_ 36 rfl
  obtain ⟨fd_check_stream, F_check_stream⟩ := s.def_ 37 rfl
  obtain ⟨fd_worth_of, F_worth_of⟩ := s.def_ 38 rfl
  obtain ⟨fd_worth, F_worth⟩ := s.def_ 39 rfl
  obtain ⟨fd_law_worth, F_law_worth⟩ := s.def_ 40 rfl
  obtain ⟨fd_check_house, F_check_house⟩ := s.def_ 41 rfl
  obtain ⟨fd_check_tie, F_check_tie⟩ := s.def_ 42 rfl
  obtain ⟨fd_units_between, F_units_between⟩ := s.def_ 43 rfl
  obtain ⟨fd_room_of, F_room_of⟩ := s.def_ 44 rfl
  obtain ⟨fd_room, F_room⟩ := s.def_ 45 rfl
  obtain ⟨fd_law, F_law⟩ := s.def_ 46 rfl
  obtain ⟨fd_x_BadWeb, F_x_BadWeb⟩ := s.def_ 47 rfl
  obtain ⟨t_MOST_HOUSES, c_MOST_HOUSES⟩ := He.int_ok X G (x := "MOST_HOUSES") (i := 10) (allB_get c 66 rfl)
  obtain ⟨t_MOST_LETS, c_MOST_LETS⟩ := He.int_ok X G (x := "MOST_LETS") (i := 1000000) (allB_get c 67 rfl)
  exact ⟨{
    fd_Web_eq := fd_Web_eq
    F_Web_eq := F_Web_eq
    fd_law_hand := fd_law_hand
    F_law_hand := F_law_hand
    fd_law_take := fd_law_take
    F_law_take := F_law_take
    fd_law_pick := fd_law_pick
    F_law_pick := F_law_pick
    fd_law_units := fd_law_units
    F_law_units := F_law_units
    fd_law_web := fd_law_web
    F_law_web := F_law_web
    fd_is_integer := fd_is_integer
    F_is_integer := F_is_integer
    fd_is_within := fd_is_within
    F_is_within := F_is_within
    fd_is_below := fd_is_below
    F_is_below := F_is_below
    fd_is_sized := fd_is_sized
    F_is_sized := F_is_sized
    fd_is_tie := fd_is_tie
    F_is_tie := F_is_tie
    fd_beside := fd_beside
    F_beside := F_beside
    fd_Web_init := fd_Web_init
    F_Web_init := F_Web_init
    fd_law_web_of := fd_law_web_of
    F_law_web_of := F_law_web_of
    fd_law_is_integer := fd_law_is_integer
    F_law_is_integer := F_law_is_integer
    fd_law_same := fd_law_same
    F_law_same := F_law_same
    fd_law_sizes := fd_law_sizes
    F_law_sizes := F_law_sizes
    fd_law_near := fd_law_near
    F_law_near := F_law_near
    fd_law_at := fd_law_at
    F_law_at := F_law_at
    fd_law_lets := fd_law_lets
    F_law_lets := F_law_lets
    fd_law_flow := fd_law_flow
    F_law_flow := F_law_flow
    fd_law_room := fd_law_room
    F_law_room := F_law_room
    fd_law_reach := fd_law_reach
    F_law_reach := F_law_reach
    fd_law_way := fd_law_way
    F_law_way := F_law_way
    fd_law_sent := fd_law_sent
    F_law_sent := F_law_sent
    fd_law_least_room := fd_law_least_room
    F_law_least_room := F_law_least_room
    fd_law_greatest := fd_law_greatest
    F_law_greatest := F_law_greatest
    fd_law_ring := fd_law_ring
    F_law_ring := F_law_ring
    fd_law_some_stream := fd_law_some_stream
    F_law_some_stream := F_law_some_stream
    fd_law_odd := fd_law_odd
    F_law_odd := F_law_odd
    fd_law_bent := fd_law_bent
    F_law_bent := F_law_bent
    fd_net_of := fd_net_of
    F_net_of := F_net_of
    fd_is_right_stream := fd_is_right_stream
    F_is_right_stream := F_is_right_stream
    fd_is_stream := fd_is_stream
    F_is_stream := F_is_stream
    fd_law_is_within := fd_law_is_within
    F_law_is_within := F_law_is_within
    fd_law_come := fd_law_come
    F_law_come := F_law_come
    fd_law_is_stream := fd_law_is_stream
    F_law_is_stream := F_law_is_stream
    fd_check_stream := fd_check_stream
    F_check_stream := F_check_stream
    fd_worth_of := fd_worth_of
    F_worth_of := F_worth_of
    fd_worth := fd_worth
    F_worth := F_worth
    fd_law_worth := fd_law_worth
    F_law_worth := F_law_worth
    fd_check_house := fd_check_house
    F_check_house := F_check_house
    fd_check_tie := fd_check_tie
    F_check_tie := F_check_tie
    fd_units_between := fd_units_between
    F_units_between := F_units_between
    fd_room_of := fd_room_of
    F_room_of := F_room_of
    fd_room := fd_room
    F_room := F_room
    fd_law := fd_law
    F_law := F_law
    fd_x_BadWeb := fd_x_BadWeb
    F_x_BadWeb := F_x_BadWeb
    g__law_hand := by
      have h := allB_get c 0 (b := (He.Fa.glo "_law_hand").ok K) rfl
      exact He.glo_ok X G h
    g__law_take := by
      have h := allB_get c 1 (b := (He.Fa.glo "_law_take").ok K) rfl
      exact He.glo_ok X G h
    g__law_pick := by
      have h := allB_get c 2 (b := (He.Fa.glo "_law_pick").ok K) rfl
      exact He.glo_ok X G h
    g__law_units := by
      have h := allB_get c 3 (b := (He.Fa.glo "_law_units").ok K) rfl
      exact He.glo_ok X G h
    g__law_web := by
      have h := allB_get c 4 (b := (He.Fa.glo "_law_web").ok K) rfl
      exact He.glo_ok X G h
    g_is_integer := by
      have h := allB_get c 5 (b := (He.Fa.glo "is_integer").ok K) rfl
      exact He.glo_ok X G h
    g_is_within := by
      have h := allB_get c 6 (b := (He.Fa.glo "is_within").ok K) rfl
      exact He.glo_ok X G h
    g_is_below := by
      have h := allB_get c 7 (b := (He.Fa.glo "is_below").ok K) rfl
      exact He.glo_ok X G h
    g_is_sized := by
      have h := allB_get c 8 (b := (He.Fa.glo "is_sized").ok K) rfl
      exact He.glo_ok X G h
    g_is_tie := by
      have h := allB_get c 9 (b := (He.Fa.glo "is_tie").ok K) rfl
      exact He.glo_ok X G h
    g_beside := by
      have h := allB_get c 10 (b := (He.Fa.glo "beside").ok K) rfl
      exact He.glo_ok X G h
    g__law_web_of := by
      have h := allB_get c 11 (b := (He.Fa.glo "_law_web_of").ok K) rfl
      exact He.glo_ok X G h
    g__law_is_integer := by
      have h := allB_get c 12 (b := (He.Fa.glo "_law_is_integer").ok K) rfl
      exact He.glo_ok X G h
    g__law_same := by
      have h := allB_get c 13 (b := (He.Fa.glo "_law_same").ok K) rfl
      exact He.glo_ok X G h
    g__law_sizes := by
      have h := allB_get c 14 (b := (He.Fa.glo "_law_sizes").ok K) rfl
      exact He.glo_ok X G h
    g__law_near := by
      have h := allB_get c 15 (b := (He.Fa.glo "_law_near").ok K) rfl
      exact He.glo_ok X G h
    g__law_at := by
      have h := allB_get c 16 (b := (He.Fa.glo "_law_at").ok K) rfl
      exact He.glo_ok X G h
    g__law_lets := by
      have h := allB_get c 17 (b := (He.Fa.glo "_law_lets").ok K) rfl
      exact He.glo_ok X G h
    g__law_flow := by
      have h := allB_get c 18 (b := (He.Fa.glo "_law_flow").ok K) rfl
      exact He.glo_ok X G h
    g__law_room := by
      have h := allB_get c 19 (b := (He.Fa.glo "_law_room").ok K) rfl
      exact He.glo_ok X G h
    g__law_reach := by
      have h := allB_get c 20 (b := (He.Fa.glo "_law_reach").ok K) rfl
      exact He.glo_ok X G h
    g__law_way := by
      have h := allB_get c 21 (b := (He.Fa.glo "_law_way").ok K) rfl
      exact He.glo_ok X G h
    g__law_sent := by
      have h := allB_get c 22 (b := (He.Fa.glo "_law_sent").ok K) rfl
      exact He.glo_ok X G h
    g__law_least_room := by
      have h := allB_get c 23 (b := (He.Fa.glo "_law_least_room").ok K) rfl
      exact He.glo_ok X G h
    g__law_greatest := by
      have h := allB_get c 24 (b := (He.Fa.glo "_law_greatest").ok K) rfl
      exact He.glo_ok X G h
    g__law_ring := by
      have h := allB_get c 25 (b := (He.Fa.glo "_law_ring").ok K) rfl
      exact He.glo_ok X G h
    g__law_some_stream := by
      have h := allB_get c 26 (b := (He.Fa.glo "_law_some_stream").ok K) rfl
      exact He.glo_ok X G h
    g__law_odd := by
      have h := allB_get c 27 (b := (He.Fa.glo "_law_odd").ok K) rfl
      exact He.glo_ok X G h
    g__law_bent := by
      have h := allB_get c 28 (b := (He.Fa.glo "_law_bent").ok K) rfl
      exact He.glo_ok X G h
    g_net_of := by
      have h := allB_get c 29 (b := (He.Fa.glo "net_of").ok K) rfl
      exact He.glo_ok X G h
    g_is_right_stream := by
      have h := allB_get c 30 (b := (He.Fa.glo "is_right_stream").ok K) rfl
      exact He.glo_ok X G h
    g_is_stream := by
      have h := allB_get c 31 (b := (He.Fa.glo "is_stream").ok K) rfl
      exact He.glo_ok X G h
    g__law_is_within := by
      have h := allB_get c 32 (b := (He.Fa.glo "_law_is_within").ok K) rfl
      exact He.glo_ok X G h
    g__law_come := by
      have h := allB_get c 33 (b := (He.Fa.glo "_law_come").ok K) rfl
      exact He.glo_ok X G h
    g__law_is_stream := by
      have h := allB_get c 34 (b := (He.Fa.glo "_law_is_stream").ok K) rfl
      exact He.glo_ok X G h
    g_check_stream := by
      have h := allB_get c 35 (b := (He.Fa.glo "check_stream").ok K) rfl
      exact He.glo_ok X G h
    g_worth_of := by
      have h := allB_get c 36 (b := (He.Fa.glo "worth_of").ok K) rfl
      exact He.glo_ok X G h
    g_worth := by
      have h := allB_get c 37 (b := (He.Fa.glo "worth").ok K) rfl
      exact He.glo_ok X G h
    g__law_worth := by
      have h := allB_get c 38 (b := (He.Fa.glo "_law_worth").ok K) rfl
      exact He.glo_ok X G h
    g_check_house := by
      have h := allB_get c 39 (b := (He.Fa.glo "check_house").ok K) rfl
      exact He.glo_ok X G h
    g_check_tie := by
      have h := allB_get c 40 (b := (He.Fa.glo "check_tie").ok K) rfl
      exact He.glo_ok X G h
    g_units_between := by
      have h := allB_get c 41 (b := (He.Fa.glo "units_between").ok K) rfl
      exact He.glo_ok X G h
    g_room_of := by
      have h := allB_get c 42 (b := (He.Fa.glo "room_of").ok K) rfl
      exact He.glo_ok X G h
    g_room := by
      have h := allB_get c 43 (b := (He.Fa.glo "room").ok K) rfl
      exact He.glo_ok X G h
    g_law := by
      have h := allB_get c 44 (b := (He.Fa.glo "law").ok K) rfl
      exact He.glo_ok X G h
    g_BadWeb := by
      have h := allB_get c 45 (b := (He.Fa.glo "BadWeb").ok K) rfl
      exact He.glo_ok X G h
    g_NoHouse := by
      have h := allB_get c 46 (b := (He.Fa.glo "NoHouse").ok K) rfl
      exact He.glo_ok X G h
    g_NoStream := by
      have h := allB_get c 47 (b := (He.Fa.glo "NoStream").ok K) rfl
      exact He.glo_ok X G h
    g_NoTie := by
      have h := allB_get c 48 (b := (He.Fa.glo "NoTie").ok K) rfl
      exact He.glo_ok X G h
    g_Web := by
      have h := allB_get c 49 (b := (He.Fa.glo "Web").ok K) rfl
      exact He.glo_ok X G h
    n_all := by
      have h := allB_get c 50 (b := (He.Fa.free "all").ok K) rfl
      exact He.free_ok X G h
    n_bool := by
      have h := allB_get c 51 (b := (He.Fa.free "bool").ok K) rfl
      exact He.free_ok X G h
    n_enumerate := by
      have h := allB_get c 52 (b := (He.Fa.free "enumerate").ok K) rfl
      exact He.free_ok X G h
    n_int := by
      have h := allB_get c 53 (b := (He.Fa.free "int").ok K) rfl
      exact He.free_ok X G h
    n_isinstance := by
      have h := allB_get c 54 (b := (He.Fa.free "isinstance").ok K) rfl
      exact He.free_ok X G h
    n_len := by
      have h := allB_get c 55 (b := (He.Fa.free "len").ok K) rfl
      exact He.free_ok X G h
    n_list := by
      have h := allB_get c 56 (b := (He.Fa.free "list").ok K) rfl
      exact He.free_ok X G h
    n_max := by
      have h := allB_get c 57 (b := (He.Fa.free "max").ok K) rfl
      exact He.free_ok X G h
    n_min := by
      have h := allB_get c 58 (b := (He.Fa.free "min").ok K) rfl
      exact He.free_ok X G h
    n_range := by
      have h := allB_get c 59 (b := (He.Fa.free "range").ok K) rfl
      exact He.free_ok X G h
    n_set := by
      have h := allB_get c 60 (b := (He.Fa.free "set").ok K) rfl
      exact He.free_ok X G h
    n_sorted := by
      have h := allB_get c 61 (b := (He.Fa.free "sorted").ok K) rfl
      exact He.free_ok X G h
    n_str := by
      have h := allB_get c 62 (b := (He.Fa.free "str").ok K) rfl
      exact He.free_ok X G h
    n_sum := by
      have h := allB_get c 63 (b := (He.Fa.free "sum").ok K) rfl
      exact He.free_ok X G h
    n_tuple := by
      have h := allB_get c 64 (b := (He.Fa.free "tuple").ok K) rfl
      exact He.free_ok X G h
    n_zip := by
      have h := allB_get c 65 (b := (He.Fa.free "zip").ok K) rfl
      exact He.free_ok X G h
    t_MOST_HOUSES := t_MOST_HOUSES
    c_MOST_HOUSES := c_MOST_HOUSES
    t_MOST_LETS := t_MOST_LETS
    c_MOST_LETS := c_MOST_LETS
    mk_Web := by
      have h := allB_get c 68 (b := (He.Fa.mkr "Web").ok K) rfl
      exact He.mkr_ok h
    x_NoHouse := by
      have h := allB_get c 69 (b := (He.Fa.exc "NoHouse").ok K) rfl
      exact He.exc_ok h
    x_NoStream := by
      have h := allB_get c 70 (b := (He.Fa.exc "NoStream").ok K) rfl
      exact He.exc_ok h
    x_NoTie := by
      have h := allB_get c 71 (b := (He.Fa.exc "NoTie").ok K) rfl
      exact He.exc_ok h
    y_BadWeb := by
      have h := allB_get c 72 (b := oexB K (He.ga K "BadWeb")) rfl
      exact oexB_ok h
    yi_BadWeb := by
      have h := allB_get c 73 (b := (He.eqO (PySem.W.findIn K (.ref (He.ga K "BadWeb")) "__init__") (some (some (.ref (He.fAd K ("BadWeb", some "__init__"))))) && decide (PySem.W.typeIn K (.ref (He.fAd K ("BadWeb", some "__init__"))) = some (.type "function")))) rfl
      exact ⟨He.eqO_ok (He.ba h).1, of_decide_eq_true (He.ba h).2⟩
    yn_BadWeb := by
      have h := allB_get c 74 (b := He.eqO (PySem.W.findIn K (.ref (He.ga K "BadWeb")) "part") (some none)) rfl
      exact He.eqO_ok h
    fld := by
      have h := allB_get c 75 (b := fldB K fldL) rfl
      exact fldB_ok (gall_fld X G c) h
    err := by
      have h := allB_get c 76 (b := errsB K errL) rfl
      exact errsB_ok (gall_err X G c) h
    i_Web := by
      have h := allB_get c 77 (b := isiFB K (.ref (He.ga K "Web")) [] ["NoneType", "bool", "int", "str", "tuple", "list", "dict"] ["Web"] []) rfl
      exact isiFB_ok (gi_Web X G c) h
    i_int := by
      have h := allB_get c 78 (b := isiFB K (.type "int") ["int", "bool"] ["NoneType", "str", "tuple", "list", "dict"] [] ["Web"]) rfl
      exact isiFB_ok (gi_int X G c) h
    i_bool := by
      have h := allB_get c 79 (b := isiFB K (.type "bool") ["bool"] ["NoneType", "int", "str", "tuple", "list", "dict"] [] ["Web"]) rfl
      exact isiFB_ok (gi_bool X G c) h
    i_tuple := by
      have h := allB_get c 80 (b := isiFB K (.type "tuple") ["tuple"] ["NoneType", "bool", "int", "str", "list", "dict"] [] ["Web"]) rfl
      exact isiFB_ok (gi_tuple X G c) h
    i_str := by
      have h := allB_get c 81 (b := isiFB K (.type "str") ["str"] ["NoneType", "bool", "int", "tuple", "list", "dict"] [] ["Web"]) rfl
      exact isiFB_ok (gi_str X G c) h
    i_list := by
      have h := allB_get c 82 (b := isiFB K (.type "list") ["list"] ["NoneType", "bool", "int", "str", "tuple", "dict"] [] ["Web"]) rfl
      exact isiFB_ok (gi_list X G c) h
  }⟩

def loose : List PySem.Str := (["StreamError", "BadWeb", "NoHouse", "NoTie", "NoStream", "is_integer", "is_within", "is_below", "is_sized", "MOST_HOUSES", "MOST_LETS", "is_tie", "Web", "beside", "check_house", "check_tie", "net_of", "is_right_stream", "is_stream", "check_stream", "worth_of", "worth", "units_between", "room_of", "room", "_law_hand", "_law_take", "_law_pick", "_law_is_integer", "_law_is_within"] : List PySem.Str) ++ (["_law_same", "_law_odd", "_law_units", "_law_web", "_law_web_of", "_law_near", "_law_at", "_law_lets", "_law_flow", "_law_room", "_law_come", "_law_is_stream", "_law_reach", "_law_way", "_law_sent", "_law_least_room", "_law_greatest", "_law_worth", "_law_ring", "_law_some_stream", "_law_sizes", "_law_bent"] : List PySem.Str)
abbrev R : PySem.W.OpenRow := PySem.W.OpenLaw.row PySem.Challenge.rw_moststream_k02_whole_streams_judged
abbrev hk : PySem.W.Hook := hookM 6 chk fn
def ob (s : PySem.W.SharedT) : He.AlD := obsMG 6 chk fn (HandSHeadRun.getT s)
theorem ob_eq (s : PySem.W.SharedT) : ob s = hk.obs s.abs := obsMG_eq (HandSHeadRun.getT_eq s)
theorem run (w : World) : HandSHeadRun.RunEq R (PySem.W.view R.prog [57]) hk ob 4000 loose w := by
  intro os
  kernel_rfl
end Law
open PySem PySem.W PySem.Calls PyProof.Rows
theorem PySem.Challenge.cw_moststream_k02_whole_streams_judged_holds : PySem.Challenge.rw_moststream_k02_whole_streams_judged.Holds := by
  w_on; o_law
  refine HandSHeadRun.head_any (r := OpenLaw.row PySem.Challenge.rw_moststream_k02_whole_streams_judged) (q := view (OpenLaw.row PySem.Challenge.rw_moststream_k02_whole_streams_judged).prog [57]) (H := Law.hk) (ob := Law.ob) (M := 4000) (loose := Law.loose) (d := HandSHeadRun.topDef (OpenLaw.row PySem.Challenge.rw_moststream_k02_whole_streams_judged).prog 57) (kwd := []) Law.ob_eq
    (by kernel_rfl) (fun s => by kernel_rfl) Law.run (by kernel_rfl) (by kernel_rfl) (by kernel_rfl) (by rfl) (by first | assumption | decide +kernel) (by decide +kernel) ⟨rfl, rfl, rfl, rfl, rfl, by decide +kernel⟩ ?hw ?hc
  case hw => w_witness2
  case hc =>
    refine L2.walk_ofE (l := PySem.Challenge.rw_moststream_k02_whole_streams_judged) (n := 63) (k := 15) (x := "_law_script") (CX := L2.CX0) rfl (by decide) (by kernel_rfl) ⟨rfl, by decide, by decide⟩ ?F (fun _ _ _ _ z => z)
    intro w mg fa h Y G hmg0
    obtain ⟨K, KX, c⟩ := Y
    have hmg : mg ("law" : PySem.Str) = some (.ref fa) := by
      have e : (HandSHeadRun.topDef (OpenLaw.row PySem.Challenge.rw_moststream_k02_whole_streams_judged).prog 57).name = ("law" : PySem.Str) := by kernel_rfl
      rw [← e]
      exact hmg0
    obtain ⟨T⟩ := Law.facts KX G c
    have e := hmg.symm.trans T.g_law
    cases e
    exact ⟨K, T.fd_law, fun vs H Q _ => Mir.spM K mg 1 [] Law.M_law vs H Q (fun _ _ _ => False), KX, fun s v => L2.FunD.bindsA (ps := ["_law_script"]) T.F_law (fun _ _ _ _ _ _ us hl => match us, hl with | [_], _ => rfl) s [v] rfl, fun H a ns hl _ hS => Mir.law_sp Law.law_true H a ns hl hS, fun base _ _ => Mir.fn_end (Law.ok_law T)⟩
