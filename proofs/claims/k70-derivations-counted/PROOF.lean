import PyProof.Rows.All
import Wide.All
import OpenK.AllK
import Wide.FinOn
import HandS.ForMost
import HandS.Conv
import HandS.Deep
import HandS.TupAny
import HandS.DictComp
import HandS.HeadHook1
import HandS.HeadHook2
import HandS.IsInst
import KE.KDictDisplayH
import KE.GoesMore
import HandS.Words
import HandS.Defaults
import HandS.Exc
import KE.KStateDown
import Lean
import HandS.Base
import HandS.Call
import HandS.Ends
import HandS.More
import HandS.WordsExc
import HandS.Head0
import HandS.Head1
import HandS.Head2
import HandS.HeadEnd
import PySem.Challenge.RW_fourleashes_k70_derivations_counted
set_option Elab.async false
set_option linter.all false
set_option maxRecDepth 100000
set_option maxHeartbeats 4000000
/-! Ev, part A: plain data, how it lies in the heap, what is kept. -/
namespace EV
open PySem PySem.Spec L2

/-- plain data -/
inductive D where
  | non | bl (b : Bool) | int (i : Int) | str (x : Str)
  | tup (xs : List D) | stc (xs : List D) | lst (xs : List D) | fz (xs : List D)
  | dK (kvs : List (Key × D)) | dT (kvs : List (List Key × D))
  | ins (c : Str) (fs : List (Str × D))

/-- a slot's content: shared data, or a container that this slot alone holds -/
inductive OT where
  | sh (d : D)
  | lst (xs : List D)
  | dK (kvs : List (Key × D)) | dT (kvs : List (List Key × D))
  | ins (a : Addr) (c : Str) (fs : List (Str × D))
def OT.val : OT → D
  | .sh d => d
  | .lst xs => .lst xs
  | .dK k => .dK k
  | .dT k => .dT k
  | .ins _ c f => .ins c f

/-- an object of the written part -/
def StaticT (K : PySem.W.Frag) (a : Addr) (vs : List V) : Prop :=
  ∃ (o : Obj) (its : Array Value) (n : Nat), K.lookup a = some o ∧ o.cls = .type "tuple" ∧ o.data = .seq its n ∧ its.size ≤ sizeLine ∧ Vals vs its.toList
def StaticL (K : PySem.W.Frag) (a : Addr) (vs : List V) : Prop :=
  ∃ (o : Obj) (its : Array Value) (n : Nat), K.lookup a = some o ∧ o.cls = .type "list" ∧ o.dict = none ∧ o.data = .seq its n ∧ its.size ≤ sizeLine ∧ Vals vs its.toList

mutual
inductive Rep (K : PySem.W.Frag) (H : Hp) (G : List Addr) : D → V → Prop
  | non : Rep K H G .non .non
  | bl (b : Bool) : Rep K H G (.bl b) (.bl b)
  | int (i : Int) : Rep K H G (.int i) (.int i)
  | str (x : Str) : Rep K H G (.str x) (.str x)
  | tup {a : Addr} {vs : List V} {ds : List D} : H a = some (.tup vs) → Reps K H G ds vs → Rep K H G (.tup ds) (.ref a)
  | tupK {a : Addr} {vs : List V} {ds : List D} : StaticT K a vs → Reps K H G ds vs → Rep K H G (.stc ds) (.ref a)
  | lst {a : Addr} {vs : List V} {ds : List D} : H a = some (.lst vs) → a ∉ G → Reps K H G ds vs → Rep K H G (.lst ds) (.ref a)
  | fz {a : Addr} {vs : List V} {ds : List D} : (Rd H a (.lst vs) ∧ a ∉ G) ∨ StaticL K a vs → Reps K H G ds vs → Rep K H G (.fz ds) (.ref a)
  | dK {a : Addr} {kvs : List (Key × V)} {ds : List (Key × D)} : Rd H a (.dK kvs) → a ∉ G → ds.map (·.1) = kvs.map (·.1) → Reps K H G (ds.map (·.2)) (kvs.map (·.2)) → Rep K H G (.dK ds) (.ref a)
  | dT {a : Addr} {kvs : List (List Key × V)} {ds : List (List Key × D)} : Rd H a (.dT kvs) → a ∉ G → ds.map (·.1) = kvs.map (·.1) → Reps K H G (ds.map (·.2)) (kvs.map (·.2)) → Rep K H G (.dT ds) (.ref a)
  | ins {a dx : Addr} {c : Str} {fs : List (Str × V)} {ds : List (Str × D)} : H a = some (.ins (He.ga K c) dx fs) → a ∉ G → ds.map (·.1) = fs.map (·.1) → Reps K H G (ds.map (·.2)) (fs.map (·.2)) → Rep K H G (.ins c ds) (.ref a)
inductive Reps (K : PySem.W.Frag) (H : Hp) (G : List Addr) : List D → List V → Prop
  | nil : Reps K H G [] []
  | cons {d : D} {v : V} {ds : List D} {vs : List V} : Rep K H G d v → Reps K H G ds vs → Reps K H G (d :: ds) (v :: vs)
end

/-- a dict may be locked or free -/
def dictObj : HO → Prop
  | .dK _ => True
  | .dT _ => True
  | _ => False
def unfz : HO → HO
  | .frz _ u => u
  | o => o
/-- what is kept from one moment to a later one -/
structure Ext (G : List Addr) (H : Hp) (G' : List Addr) (H' : Hp) : Prop where
  keep : ∀ a o, a ∉ G → H a = some o → ∃ o', H' a = some o' ∧ (o' = o ∨ (dictObj (unfz o) ∧ unfz o' = unfz o))
  tups : ∀ a vs, H a = some (.tup vs) → H' a = some (.tup vs)
  own : ∀ a, a ∈ G' → a ∈ G ∨ H a = none

section
variable {K : PySem.W.Frag} {G G' G2 : List Addr} {H H' H2 : Hp}
theorem Ext.notIn (x : Ext G H G' H') {a : Addr} {o : HO} (hg : a ∉ G) (h : H a = some o) : a ∉ G' := fun hm => by
  rcases x.own a hm with q | q
  · exact hg q
  · rw [h] at q; cases q
theorem Ext.exact (x : Ext G H G' H') {a : Addr} {o : HO} (hg : a ∉ G) (h : H a = some o) (hd : ¬ dictObj (unfz o)) : H' a = some o := by
  obtain ⟨o', e, q⟩ := x.keep a o hg h
  rcases q with q | q
  · rw [e, q]
  · exact (hd q.1).elim
theorem Ext.rdL (x : Ext G H G' H') {a : Addr} {vs : List V} (hg : a ∉ G) (h : Rd H a (.lst vs)) : Rd H' a (.lst vs) := by
  rcases h with h | ⟨o, h⟩
  · exact .inl (x.exact hg h (fun z => z))
  · exact .inr ⟨o, x.exact hg h (fun z => z)⟩
theorem Ext.rdD (x : Ext G H G' H') {a : Addr} {u : HO} (hu : dictObj u) (hg : a ∉ G) (h : Rd H a u) : Rd H' a u := by
  have hz : unfz u = u := by cases u <;> first | rfl | exact hu.elim
  have main : ∀ o, H a = some o → unfz o = u → Rd H' a u := fun o ho hz' => by
    obtain ⟨o', e, q⟩ := x.keep a o hg ho
    have ez : unfz o' = u := by
      rcases q with q | q
      · rw [q]; exact hz'
      · rw [q.2]; exact hz'
    cases o' with
    | frz ob w' =>
      have : w' = u := ez
      subst this
      exact .inr ⟨ob, e⟩
    | _ => exact .inl (by rw [e, ← ez] <;> rfl)
  rcases h with h | ⟨o, h⟩
  · exact main u h hz
  · exact main _ h rfl
mutual
theorem Rep.ext (x : Ext G H G' H') : ∀ {d : D} {v : V}, Rep K H G d v → Rep K H' G' d v
  | _, _, .non => .non
  | _, _, .bl b => .bl b
  | _, _, .int i => .int i
  | _, _, .str z => .str z
  | _, _, .tup h r => .tup (x.tups _ _ h) (Reps.ext x r)
  | _, _, .tupK h r => .tupK h (Reps.ext x r)
  | _, _, .lst h hg r => .lst (x.exact hg h (fun z => z)) (x.notIn hg h) (Reps.ext x r)
  | _, _, .fz h r => .fz (h.elim (fun q => .inl ⟨x.rdL q.2 q.1, q.1.elim (fun z => x.notIn q.2 z) fun ⟨_, z⟩ => x.notIn q.2 z⟩) .inr) (Reps.ext x r)
  | _, _, .dK h hg e r => .dK (x.rdD trivial hg h) (h.elim (fun z => x.notIn hg z) fun ⟨_, z⟩ => x.notIn hg z) e (Reps.ext x r)
  | _, _, .dT h hg e r => .dT (x.rdD trivial hg h) (h.elim (fun z => x.notIn hg z) fun ⟨_, z⟩ => x.notIn hg z) e (Reps.ext x r)
  | _, _, .ins h hg e r => .ins (x.exact hg h (fun z => z)) (x.notIn hg h) e (Reps.ext x r)
theorem Reps.ext (x : Ext G H G' H') : ∀ {ds : List D} {vs : List V}, Reps K H G ds vs → Reps K H' G' ds vs
  | _, _, .nil => .nil
  | _, _, .cons h t => .cons (Rep.ext x h) (Reps.ext x t)
end
theorem Reps.length : ∀ {ds : List D} {vs : List V}, Reps K H G ds vs → ds.length = vs.length
  | _, _, .nil => rfl
  | _, _, .cons _ t => congrArg (· + 1) (Reps.length t)
theorem Reps.get : ∀ {ds : List D} {vs : List V} {i : Nat} {d : D}, Reps K H G ds vs → ds[i]? = some d → ∃ v, vs[i]? = some v ∧ Rep K H G d v
  | _, _, _, _, .nil, e => by simp at e
  | _, _, 0, _, .cons h _, e => by simp at e; subst e; exact ⟨_, rfl, h⟩
  | _, _, i + 1, _, .cons _ t, e => by
    obtain ⟨v, h1, h2⟩ := Reps.get (i := i) t (by simpa using e)
    exact ⟨v, by simpa using h1, h2⟩
theorem Reps.getV : ∀ {ds : List D} {vs : List V} {i : Nat} {v : V}, Reps K H G ds vs → vs[i]? = some v → ∃ d, ds[i]? = some d ∧ Rep K H G d v
  | _, _, _, _, .nil, e => by simp at e
  | _, _, 0, _, .cons h _, e => by simp at e; subst e; exact ⟨_, rfl, h⟩
  | _, _, i + 1, _, .cons _ t, e => by
    obtain ⟨v, h1, h2⟩ := Reps.getV (i := i) t (by simpa using e)
    exact ⟨v, by simpa using h1, h2⟩
theorem Reps.append : ∀ {ds es : List D} {vs ws : List V}, Reps K H G ds vs → Reps K H G es ws → Reps K H G (ds ++ es) (vs ++ ws)
  | _, _, _, _, .nil, s => s
  | _, _, _, _, .cons h t, s => .cons h (Reps.append t s)
theorem Reps.take : ∀ {ds : List D} {vs : List V} (n : Nat), Reps K H G ds vs → Reps K H G (ds.take n) (vs.take n)
  | _, _, 0, _ => .nil
  | _, _, _ + 1, .nil => .nil
  | _, _, n + 1, .cons h t => .cons h (Reps.take n t)
theorem Reps.drop : ∀ {ds : List D} {vs : List V} (n : Nat), Reps K H G ds vs → Reps K H G (ds.drop n) (vs.drop n)
  | _, _, 0, r => r
  | _, _, _ + 1, .nil => .nil
  | _, _, n + 1, .cons _ t => Reps.drop n t
theorem Reps.set {d : D} {v : V} (r : Rep K H G d v) : ∀ {ds : List D} {vs : List V} (i : Nat), Reps K H G ds vs → Reps K H G (ds.set i d) (vs.set i v)
  | _, _, _, .nil => .nil
  | _, _, 0, .cons _ t => .cons r t
  | _, _, i + 1, .cons q t => .cons q (Reps.set r i t)

/-- an owned container, and its address -/
inductive RepO (K : PySem.W.Frag) (H : Hp) (G : List Addr) : OT → V → List Addr → Prop
  | sh {d : D} {v : V} : Rep K H G d v → RepO K H G (.sh d) v []
  | lst {a : Addr} {vs : List V} {ds : List D} : H a = some (.lst vs) → Reps K H G ds vs → RepO K H G (.lst ds) (.ref a) [a]
  | dK {a : Addr} {kvs : List (Key × V)} {ds : List (Key × D)} : H a = some (.dK kvs) → ds.map (·.1) = kvs.map (·.1) → Reps K H G (ds.map (·.2)) (kvs.map (·.2)) → RepO K H G (.dK ds) (.ref a) [a]
  | dT {a : Addr} {kvs : List (List Key × V)} {ds : List (List Key × D)} : H a = some (.dT kvs) → ds.map (·.1) = kvs.map (·.1) → Reps K H G (ds.map (·.2)) (kvs.map (·.2)) → RepO K H G (.dT ds) (.ref a) [a]
  | ins {a dx : Addr} {c : Str} {fs : List (Str × V)} {ds : List (Str × D)} : H a = some (.ins (He.ga K c) dx fs) → ds.map (·.1) = fs.map (·.1) → Reps K H G (ds.map (·.2)) (fs.map (·.2)) → RepO K H G (.ins a c ds) (.ref a) [a]
/-- dropped: shared from now on -/
theorem RepO.drop {t : OT} {v : V} {O : List Addr} (r : RepO K H G t v O) (x : Ext G H G' H) (ho : ∀ a ∈ O, a ∉ G') : Rep K H G' t.val v := by
  cases r with
  | sh h => exact h.ext x
  | lst h r => exact .lst h (ho _ (by simp)) (r.ext x)
  | dK h e r => exact .dK (.inl h) (ho _ (by simp)) e (r.ext x)
  | dT h e r => exact .dT (.inl h) (ho _ (by simp)) e (r.ext x)
  | ins h e r => exact .ins h (ho _ (by simp)) e (r.ext x)
theorem RepO.ext {t : OT} {v : V} {O : List Addr} (r : RepO K H G t v O) (x : Ext G H G' H') (ho : ∀ a ∈ O, ∀ o, H a = some o → H' a = some o) : RepO K H' G' t v O := by
  cases r with
  | sh h => exact .sh (h.ext x)
  | lst h r => exact .lst (ho _ (by simp) _ h) (r.ext x)
  | dK h e r => exact .dK (ho _ (by simp) _ h) e (r.ext x)
  | dT h e r => exact .dT (ho _ (by simp) _ h) e (r.ext x)
  | ins h e r => exact .ins (ho _ (by simp) _ h) e (r.ext x)
theorem Ext.of_same (h : ∀ a o, H a = some o → H' a = some o) (own : ∀ a, a ∈ G' → a ∈ G ∨ H a = none) : Ext G H G' H' :=
  ⟨fun a o _ e => ⟨o, h a o e, .inl rfl⟩, fun a vs e => h a _ e, own⟩
theorem Ext.sub (own : ∀ a, a ∈ G' → a ∈ G) : Ext G H G' H := .of_same (fun _ _ e => e) fun a h => .inl (own a h)
end
abbrev Env' := List (Option OT)
/-- the slots -/
inductive RepE (K : PySem.W.Frag) (H : Hp) (G : List Addr) : Env' → St → List Addr → Prop
  | nil : RepE K H G [] [] []
  | cs {t : OT} {v : V} {O1 O2 : List Addr} {Γ : Env'} {σ : St} : RepO K H G t v O1 → RepE K H G Γ σ O2 → RepE K H G (some t :: Γ) (some v :: σ) (O1 ++ O2)
  | cn {x : Option V} {O : List Addr} {Γ : Env'} {σ : St} : RepE K H G Γ σ O → RepE K H G (none :: Γ) (x :: σ) O
section
variable {K : PySem.W.Frag} {G G' G2 : List Addr} {H H' H2 : Hp} {Γ : Env'} {σ : St} {O : List Addr}
theorem RepE.ext : ∀ {Γ : Env'} {σ : St} {O : List Addr}, RepE K H G Γ σ O → Ext G H G' H' → (∀ a ∈ O, ∀ o, H a = some o → H' a = some o) → RepE K H' G' Γ σ O
  | _, _, _, .nil, _, _ => .nil
  | _, _, _, .cs h t, x, ho => .cs (h.ext x fun a m => ho a (List.mem_append_left _ m)) (RepE.ext t x fun a m => ho a (List.mem_append_right _ m))
  | _, _, _, .cn t, x, ho => .cn (RepE.ext t x ho)
theorem RepE.length : ∀ {Γ : Env'} {σ : St} {O : List Addr}, RepE K H G Γ σ O → Γ.length = σ.length
  | _, _, _, .nil => rfl
  | _, _, _, .cs _ t => congrArg (· + 1) (RepE.length t)
  | _, _, _, .cn t => congrArg (· + 1) (RepE.length t)
/-- a slot looked at: its part of the addresses in the middle -/
theorem RepE.at : ∀ {Γ : Env'} {σ : St} {O : List Addr} {i : Nat} {t : OT}, RepE K H G Γ σ O → Γ[i]? = some (some t) →
    ∃ v P O1 S, σ[i]? = some (some v) ∧ RepO K H G t v O1 ∧ O = P ++ O1 ++ S ∧
      (∀ (H' : Hp) (G' : List Addr) (t' : Option OT) (v' : V) (O1' : List Addr), Ext G H G' H' → (∀ a ∈ P ++ S, ∀ o, H a = some o → H' a = some o) → (∀ t2, t' = some t2 → RepO K H' G' t2 v' O1') → (t' = none → O1' = []) →
        RepE K H' G' (Γ.set i t') (σ.set i (some v')) (P ++ O1' ++ S))
  | _, _, _, 0, t, .cs (O1 := O1) (O2 := O2) h r, e => by
    simp at e
    subst e
    refine ⟨_, [], O1, O2, rfl, h, rfl, fun H' G' t' v' O1' x ho ht hn => ?_⟩
    cases t' with
    | none => rw [hn rfl]; exact .cn (r.ext x ho)
    | some t2 => exact .cs (ht t2 rfl) (r.ext x ho)
  | _, _, _, 0, t, .cn _, e => by simp at e
  | _, _, _, i + 1, t, .cs (O1 := O1) h r, e => by
    obtain ⟨v, P, Oi, S, h1, h2, h3, h4⟩ := RepE.at (i := i) r (by simpa using e)
    refine ⟨v, O1 ++ P, Oi, S, by simpa using h1, h2, by rw [h3]; simp [List.append_assoc], fun H' G' t' v' O1' x ho ht hn => ?_⟩
    have q := h4 H' G' t' v' O1' x (fun a m => ho a (by simp at m ⊢; rcases m with m | m <;> simp [m])) ht hn
    have z := RepE.cs (h.ext x fun a m => ho a (by simp [m])) q
    have ea : O1 ++ P ++ O1' ++ S = O1 ++ (P ++ O1' ++ S) := by simp
    rw [ea]
    exact z
  | _, _, _, i + 1, t, .cn r, e => by
    obtain ⟨v, P, Oi, S, h1, h2, h3, h4⟩ := RepE.at (i := i) r (by simpa using e)
    exact ⟨v, P, Oi, S, by simpa using h1, h2, h3, fun H' G' t' v' O1' x ho ht hn => .cn (h4 H' G' t' v' O1' x ho ht hn)⟩
/-- a slot stored to, whatever it held -/
theorem RepE.put : ∀ {Γ : Env'} {σ : St} {O : List Addr} {i : Nat} {t : OT} {v : V} {O1 : List Addr}, RepE K H G Γ σ O → i < Γ.length → RepO K H G t v O1 →
    ∃ P X S, O = P ++ X ++ S ∧ RepE K H G (Γ.set i (some t)) (σ.set i (some v)) (P ++ O1 ++ S)
  | _, _, _, _, _, _, _, .nil, hi, _ => by simp at hi
  | _, _, _, 0, t, v, O1, .cs (O1 := X) (O2 := S) h r, _, q => ⟨[], X, S, rfl, .cs q r⟩
  | _, _, _, 0, t, v, O1, .cn (O := S) r, _, q => ⟨[], [], S, rfl, .cs q r⟩
  | _, _, _, i + 1, t, v, O1, .cs (O1 := X1) h r, hi, q => by
    obtain ⟨P, X, S, h3, h4⟩ := RepE.put (i := i) r (by simpa using hi) q
    refine ⟨X1 ++ P, X, S, by rw [h3]; simp [List.append_assoc], ?_⟩
    have z := RepE.cs h h4
    have ea : X1 ++ P ++ O1 ++ S = X1 ++ (P ++ O1 ++ S) := by simp
    rw [ea]
    exact z
  | _, _, _, i + 1, t, v, O1, .cn r, hi, q => by
    obtain ⟨P, X, S, h3, h4⟩ := RepE.put (i := i) r (by simpa using hi) q
    exact ⟨P, X, S, h3, .cn h4⟩
/-- slots forgotten -/
theorem RepE.forget : ∀ {Γ : Env'} {σ : St} {O : List Addr} {i : Nat} (x : Option V), RepE K H G Γ σ O → ∃ O', (∀ a ∈ O', a ∈ O) ∧ O'.Sublist O ∧ RepE K H G (Γ.set i none) (σ.set i x) O'
  | _, _, _, _, _, .nil => ⟨[], by simp, List.nil_sublist _, .nil⟩
  | _, _, _, 0, x, .cs (O1 := X) (O2 := S) h r => ⟨S, fun a m => List.mem_append_right _ m, List.sublist_append_right _ _, .cn r⟩
  | _, _, _, 0, x, .cn r => ⟨_, fun a m => m, List.Sublist.refl _, .cn r⟩
  | _, _, _, i + 1, x, .cs (O1 := X1) h r => by
    obtain ⟨O', m, sb, q⟩ := RepE.forget (i := i) x r
    refine ⟨X1 ++ O', fun a z => ?_, List.Sublist.append (List.Sublist.refl _) sb, .cs h q⟩
    rcases List.mem_append.mp z with z | z
    · exact List.mem_append_left _ z
    · exact List.mem_append_right _ (m a z)
  | _, _, _, i + 1, x, .cn r => by
    obtain ⟨O', m, sb, q⟩ := RepE.forget (i := i) x r
    exact ⟨O', m, sb, .cn q⟩
end
end EV

set_option maxHeartbeats 4000000
/-! Ev, part B: the state of a body, the lifted readings, the judgements. -/
namespace EV
open PySem PySem.Spec L2

structure SOk (K : PySem.W.Frag) (H0 : Hp) (M0 F : List Addr) (Γ : Env') (σ : St) (H : Hp) (O : List Addr) : Prop where
  rep : RepE K H (F ++ O) Γ σ O
  nd : O.Nodup
  dj : ∀ a ∈ O, a ∉ F
  trk : ∀ a ∈ F ++ O, ∃ o, H a = some o
  keep : ∀ a o, H0 a = some o → a ∉ M0 → H a = some o
  own : ∀ a ∈ O, a ∈ M0 ∨ H0 a = none
/-- from a state to a later one within one expression -/
structure Chn (K : PySem.W.Frag) (H0 : Hp) (M0 F : List Addr) (σ : St) (H : Hp) (O : List Addr) (Γ' : Env') (H' : Hp) (F' O' : List Addr) : Prop where
  st : SOk K H0 M0 F' Γ' σ H' O'
  same : ∀ a o, H a = some o → H' a = some o
  sub : ∀ a ∈ O', a ∈ O
  inc : ∀ a ∈ F, a ∈ F'
  new : ∀ a ∈ F', a ∈ F ∨ a ∈ O ∨ H a = none

section
variable {K : PySem.W.Frag} {H0 : Hp} {M0 F F1 F2 : List Addr} {Γ Γ1 Γ2 : Env'} {σ : St} {H H1 H2 : Hp} {O O1 O2 : List Addr}
theorem Chn.refl (s : SOk K H0 M0 F Γ σ H O) : Chn K H0 M0 F σ H O Γ H F O := ⟨s, fun _ _ e => e, fun _ m => m, fun _ m => m, fun _ m => .inl m⟩
theorem Chn.ext (c : Chn K H0 M0 F σ H O Γ1 H1 F1 O1) : Ext (F ++ O) H (F1 ++ O1) H1 := .of_same c.same fun a m => by
  rcases List.mem_append.mp m with m | m
  · rcases c.new a m with q | q | q
    · exact .inl (List.mem_append_left _ q)
    · exact .inl (List.mem_append_right _ q)
    · exact .inr q
  · exact .inl (List.mem_append_right _ (c.sub a m))
theorem Chn.trans (c : Chn K H0 M0 F σ H O Γ1 H1 F1 O1) (d : Chn K H0 M0 F1 σ H1 O1 Γ2 H2 F2 O2) : Chn K H0 M0 F σ H O Γ2 H2 F2 O2 := by
  refine ⟨d.st, fun a o e => d.same a o (c.same a o e), fun a m => c.sub a (d.sub a m), fun a m => d.inc a (c.inc a m), fun a m => ?_⟩
  rcases d.new a m with q | q | q
  · exact c.new a q
  · exact .inr (.inl (c.sub a q))
  · cases e : H a with
    | none => exact .inr (.inr rfl)
    | some o => rw [c.same a o e] at q; cases q
/-- temporaries dropped -/
theorem SOk.thin (s : SOk K H0 M0 F1 Γ σ H O) (h : ∀ a ∈ F, a ∈ F1) : SOk K H0 M0 F Γ σ H O := by
  refine ⟨s.rep.ext (.sub fun a m => ?_) fun _ _ _ e => e, s.nd, fun a m z => s.dj a m (h a z), fun a m => s.trk a ?_, s.keep, s.own⟩
  all_goals
    rcases List.mem_append.mp m with m | m
    · exact List.mem_append_left _ (h a m)
    · exact List.mem_append_right _ m
theorem Chn.thin (c : Chn K H0 M0 F σ H O Γ1 H1 F1 O1) (h : ∀ a ∈ F, a ∈ F2) (h2 : ∀ a ∈ F2, a ∈ F1) : Chn K H0 M0 F σ H O Γ1 H1 F2 O1 :=
  ⟨c.st.thin h2, c.same, c.sub, h, fun a m => c.new a (h2 a m)⟩
theorem Chn.base (c : Chn K H0 M0 F σ H O Γ1 H1 F1 O1) : Chn K H0 M0 F σ H O Γ1 H1 F O1 := c.thin (fun _ m => m) c.inc

/-- what a step may bring: new objects alone -/
structure New (K : PySem.W.Frag) (G : List Addr) (H : Hp) (t : OT) (v : V) (H' : Hp) (Od : List Addr) : Prop where
  same : ∀ a o, H a = some o → H' a = some o
  fre : ∀ a ∈ Od, H a = none
  trk : ∀ a ∈ Od, ∃ o, H' a = some o
  rep : RepO K H' (G ++ Od) t v Od
theorem Chn.fin {t : OT} {v : V} {H' : Hp} {Od : List Addr} (c : Chn K H0 M0 F σ H O Γ1 H1 F1 O1) (n : New K (F1 ++ O1) H1 t v H' Od) :
    Chn K H0 M0 F σ H O Γ1 H' (F ++ Od) O1 ∧ (∀ a ∈ Od, a ∈ O ∨ H a = none) ∧ RepO K H' ((F ++ Od) ++ O1) t v Od := by
  have fro : ∀ a ∈ Od, a ∉ F1 ++ O1 := fun a m z => by
    obtain ⟨o, e⟩ := c.st.trk a z
    rw [n.fre a m] at e; cases e
  have keepO : ∀ a ∈ Od, ∀ o, H' a = some o → H' a = some o := fun _ _ _ e => e
  have x1 : Ext (F1 ++ O1) H1 ((F ++ Od) ++ O1) H' := .of_same n.same fun a m => by
    simp only [List.mem_append] at m
    rcases m with (m | m) | m
    · exact .inl (List.mem_append_left _ (c.inc a m))
    · exact .inr (n.fre a m)
    · exact .inl (List.mem_append_right _ m)
  refine ⟨⟨⟨c.st.rep.ext x1 fun a m o e => n.same a o e, c.st.nd, fun a m z => ?_, fun a m => ?_, fun a o e h => n.same a o (c.st.keep a o e h), c.st.own⟩, fun a o e => n.same a o (c.same a o e), c.sub, fun a m => List.mem_append_left _ m, fun a m => ?_⟩, fun a m => ?_, ?_⟩
  · rcases List.mem_append.mp z with z | z
    · exact c.st.dj a m (c.inc a z)
    · exact fro a z (List.mem_append_right _ m)
  · simp only [List.mem_append] at m
    rcases m with (m | m) | m
    · obtain ⟨o, e⟩ := c.st.trk a (List.mem_append_left _ (c.inc a m))
      exact ⟨o, n.same a o e⟩
    · exact n.trk a m
    · obtain ⟨o, e⟩ := c.st.trk a (List.mem_append_right _ m)
      exact ⟨o, n.same a o e⟩
  · rcases List.mem_append.mp m with m | m
    · exact .inl m
    · cases e : H a with
      | none => exact .inr (.inr rfl)
      | some o => have q := c.same a o e; rw [n.fre a m] at q; cases q
  · cases e : H a with
    | none => exact .inr rfl
    | some o => have q := c.same a o e; rw [n.fre a m] at q; cases q
  · refine n.rep.ext (.sub fun a m => ?_) fun _ _ _ e => e
    simp only [List.mem_append] at m ⊢
    rcases m with (m | m) | m
    · exact .inl (.inl (c.inc a m))
    · exact .inr m
    · exact .inl (.inr m)
theorem New.here {G : List Addr} {d : D} {v : V} (r : Rep K H G d v) : New K G H (.sh d) v H [] where
  same := fun _ _ e => e
  fre := fun _ m => nomatch m
  trk := fun _ m => nomatch m
  rep := .sh (by simpa using r)
end

abbrev WE := Env' → (OT → Env' → Prop) → Prop
abbrev WT := Env' → (Bool → Env' → Prop) → Prop
abbrev WA := Env' → (List D → Env' → Prop) → Prop
structure WEnds where
  nx : Env' → Prop
  rt : OT → Prop
  bk : Env' → Prop
  ct : Env' → Prop
abbrev WS := WEnds → Env' → Prop

def LE (K : PySem.W.Frag) (w : WE) : TE := fun σ H Q => ∃ H0 M0 F Γ O, SOk K H0 M0 F Γ σ H O ∧
  w Γ fun t Γ' => ∀ v H' Od O', Chn K H0 M0 F σ H O Γ' H' (F ++ Od) O' → (∀ a ∈ Od, a ∈ O ∨ H a = none) → RepO K H' ((F ++ Od) ++ O') t v Od → Q v H'
def LU (K : PySem.W.Frag) (w : WE) : TE := fun σ H Q => ∃ H0 M0 F Γ O, SOk K H0 M0 F Γ σ H O ∧
  w Γ fun t Γ' => ∀ v H' F' Ob O', Chn K H0 M0 F σ H O Γ' H' F' O' → RepO K H' (F' ++ O') t v Ob → Q v H'
def LA (K : PySem.W.Frag) (w : WA) : TA := fun σ H Q => ∃ H0 M0 F Γ O, SOk K H0 M0 F Γ σ H O ∧
  w Γ fun ds Γ' => ∀ vs H' O', Chn K H0 M0 F σ H O Γ' H' F O' → Reps K H' (F ++ O') ds vs → Q vs H'
def LT (K : PySem.W.Frag) (w : WT) : TT := fun σ H Q => ∃ H0 M0 F Γ O, SOk K H0 M0 F Γ σ H O ∧
  w Γ fun b Γ' => ∀ H' O', Chn K H0 M0 F σ H O Γ' H' F O' → Q b H'
/-- what a value handed back is -/
structure RtPost (K : PySem.W.Frag) (H0 : Hp) (M0 F : List Addr) (t : OT) (v : V) (H' : Hp) (Od : List Addr) : Prop where
  rep : RepO K H' (F ++ Od) t v Od
  dj : ∀ a ∈ Od, a ∉ F
  trk : ∀ a ∈ F ++ Od, ∃ o, H' a = some o
  keep : ∀ a o, H0 a = some o → a ∉ M0 → H' a = some o
  own : ∀ a ∈ Od, a ∈ M0 ∨ H0 a = none
def liftW (K : PySem.W.Frag) (H0 : Hp) (M0 F : List Addr) (D : Ends) : WEnds where
  nx := fun Γ' => ∀ σ' H' O', SOk K H0 M0 F Γ' σ' H' O' → D.nx σ' H'
  rt := fun t => ∀ v H' Od, RtPost K H0 M0 F t v H' Od → D.rt v H'
  bk := fun Γ' => ∀ σ' H' O', SOk K H0 M0 F Γ' σ' H' O' → D.bk σ' H'
  ct := fun Γ' => ∀ σ' H' O', SOk K H0 M0 F Γ' σ' H' O' → D.ct σ' H'
def LS (K : PySem.W.Frag) (w : WS) : TS := fun D σ H => ∃ H0 M0 F Γ O, SOk K H0 M0 F Γ σ H O ∧ w (liftW K H0 M0 F D) Γ

def MonoE (w : WE) : Prop := ∀ Γ (P P' : OT → Env' → Prop), (∀ t Γ', P t Γ' → P' t Γ') → w Γ P → w Γ P'
def MonoT (w : WT) : Prop := ∀ Γ (P P' : Bool → Env' → Prop), (∀ t Γ', P t Γ' → P' t Γ') → w Γ P → w Γ P'
def MonoA (w : WA) : Prop := ∀ Γ (P P' : List D → Env' → Prop), (∀ t Γ', P t Γ' → P' t Γ') → w Γ P → w Γ P'
structure WEnds.Le (W W' : WEnds) : Prop where
  nx : ∀ Γ, W.nx Γ → W'.nx Γ
  rt : ∀ t, W.rt t → W'.rt t
  bk : ∀ Γ, W.bk Γ → W'.bk Γ
  ct : ∀ Γ, W.ct Γ → W'.ct Γ
def MonoS (w : WS) : Prop := ∀ (W W' : WEnds) Γ, W.Le W' → w W Γ → w W' Γ
structure XE (X : Cx) (e : Expr) (w : WE) : Prop where
  pe : PE X e (LE X.K w)
  mono : MonoE w
structure XU (X : Cx) (e : Expr) (w : WE) : Prop where
  pe : PE X e (LU X.K w)
  mono : MonoE w
structure XA (X : Cx) (es : List Expr) (w : WA) : Prop where
  pa : PA X es (LA X.K w)
  mono : MonoA w
structure XT (X : Cx) (e : Expr) (w : WT) : Prop where
  pt : PT X e (LT X.K w)
  mono : MonoT w
structure XS (X : Cx) (s : Stmt) (w : WS) : Prop where
  ps : PS X s (LS X.K w)
  mono : MonoS w
structure XSs (X : Cx) (s : List Stmt) (w : WS) : Prop where
  ps : PSs X s (LS X.K w)
  mono : MonoS w
theorem peW {X : Cx} {e : Expr} {t t' : TE} (h : PE X e t) (i : ∀ σ H Q, t' σ H Q → t σ H Q) : PE X e t' := ⟨fun pins s σ H Q I q => h.run pins s σ H Q I (i σ H Q q)⟩
theorem ptW {X : Cx} {e : Expr} {t t' : TT} (h : PT X e t) (i : ∀ σ H Q, t' σ H Q → t σ H Q) : PT X e t' := ⟨fun pins s σ H Q I q => h.run pins s σ H Q I (i σ H Q q)⟩
theorem psW {X : Cx} {e : Stmt} {t t' : TS} (h : PS X e t) (i : ∀ D σ H, t' D σ H → t D σ H) : PS X e t' := ⟨fun pins s σ H D I q => h.run pins s σ H D I (i D σ H q)⟩

section
variable {X : Cx} {a b e : Expr} {es : List Expr} {wa wb w : WE}
/-- an expression read is used, too -/
theorem XE.use (h : XE X e w) : XU X e w := by
  refine ⟨peW h.pe fun σ H Q => ?_, h.mono⟩
  rintro ⟨H0, M0, F, Γ, O, st, hw⟩
  exact ⟨H0, M0, F, Γ, O, st, h.mono _ _ _ (fun t Γ' q v H' Od O' c _ r => q v H' (F ++ Od) Od O' c r) hw⟩
/-- a local name, used -/
def wUse (i : Nat) : WE := fun Γ R => ∃ t, Γ[i]? = some (some t) ∧ R t Γ
theorem XU.var {i : Nat} (h : PE X e (tVar i)) : XU X e (wUse i) := by
  refine ⟨peW h fun σ H Q => ?_, fun Γ P P' i ⟨t, e, q⟩ => ⟨t, e, i _ _ q⟩⟩
  rintro ⟨H0, M0, F, Γ, O, st, t, et, q⟩
  obtain ⟨v, P, O1, S, h1, h2, h3, _⟩ := st.rep.at et
  exact ⟨v, h1, q v H F O1 O (.refl st) h2⟩
/-- a local name, handed on: shared from now on -/
def wName (i : Nat) : WE := fun Γ R => ∃ t, Γ[i]? = some (some t) ∧ R (.sh t.val) (Γ.set i (some (.sh t.val)))
theorem XE.var {i : Nat} (h : PE X e (tVar i)) : XE X e (wName i) := by
  refine ⟨peW h fun σ H Q => ?_, fun Γ P P' i ⟨t, e, q⟩ => ⟨t, e, i _ _ q⟩⟩
  rintro ⟨H0, M0, F, Γ, O, st, t, et, q⟩
  obtain ⟨v, P, O1, S, h1, h2, h3, h4⟩ := st.rep.at et
  refine ⟨v, h1, ?_⟩
  have nd := st.nd
  rw [h3] at nd
  have sb : ∀ a, a ∈ P ++ [] ++ S → a ∈ O := fun a m => by rw [h3]; simp at m ⊢; rcases m with m | m <;> simp [m]
  have x : Ext (F ++ O) H (F ++ (P ++ [] ++ S)) H := .sub fun a m => by
    rcases List.mem_append.mp m with m | m
    · exact List.mem_append_left _ m
    · exact List.mem_append_right _ (sb a m)
  have hn : ∀ a ∈ O1, a ∉ F ++ (P ++ [] ++ S) := fun a m z => by
    rcases List.mem_append.mp z with z | z
    · exact st.dj a (by rw [h3]; simp [m]) z
    · simp only [List.append_assoc, List.nil_append, List.nodup_append] at nd z
      simp only [List.mem_append] at z
      rcases z with z | z
      · exact nd.2.2 a z a (List.mem_append_left _ m) rfl
      · exact nd.2.1.2.2 a m a z rfl
  have rd := h2.drop x hn
  have re := h4 H (F ++ (P ++ [] ++ S)) (some (.sh t.val)) v [] x (fun _ _ _ e => e) (fun t2 e2 => by cases e2; exact .sh rd) (fun e2 => nomatch e2)
  have es : σ.set i (some v) = σ := by
    refine List.ext_getElem? fun j => ?_
    by_cases hj : i = j
    · subst hj
      rw [List.getElem?_set_self (List.getElem?_eq_some_iff.mp h1).1, h1]
    · rw [List.getElem?_set_ne hj]
  rw [es] at re
  refine q v H [] (P ++ [] ++ S) ⟨⟨by simpa using re, ?_, fun a m z => st.dj a (sb a m) (by simpa using z), fun a m => st.trk a ?_, st.keep, fun a m => st.own a (sb a m)⟩, fun _ _ e => e, sb, fun a m => by simpa using m, fun a m => .inl (by simpa using m)⟩ (fun _ m => nomatch m) ?_
  · simp only [List.append_assoc, List.nil_append, List.nodup_append] at nd ⊢
    exact ⟨nd.1, nd.2.1.2.1, fun a m b mb => nd.2.2 a m b (List.mem_append_right _ mb)⟩
  · simp only [List.append_nil, List.append_assoc, List.nil_append, List.mem_append] at m ⊢
    rcases m with m | m
    · exact .inl m
    · exact .inr (sb a (by simpa using m))
  · refine .sh ?_
    simpa using rd

/-- a two-place operation -/
structure Op2 (K : PySem.W.Frag) (r : R2) (f : OT → OT → (OT → Prop) → Prop) : Prop where
  mono : ∀ t1 t2 (P P' : OT → Prop), (∀ t, P t → P' t) → f t1 t2 P → f t1 t2 P'
  ok : ∀ (G : List Addr) (H : Hp) t1 v1 B1 t2 v2 B2 P (Q : VK), RepO K H G t1 v1 B1 → RepO K H G t2 v2 B2 → f t1 t2 P → (∀ t v H' Od, P t → New K G H t v H' Od → Q v H') → r v1 v2 H Q
theorem XE.bin {r : R2} {f : OT → OT → (OT → Prop) → Prop} (op : Op2 X.K r f) (ha : XU X a wa) (hb : XU X b wb) (h : PE X a (LU X.K wa) → PE X b (LU X.K wb) → PE X e (tOp r (LU X.K wa) (LU X.K wb))) :
    XE X e (fun Γ R => wa Γ fun t1 Γ1 => wb Γ1 fun t2 Γ2 => f t1 t2 fun t => R t Γ2) := by
  refine ⟨peW (h ha.pe hb.pe) fun σ H Q => ?_, fun Γ P P' i q => ha.mono _ _ _ (fun t1 Γ1 q1 => hb.mono _ _ _ (fun t2 Γ2 q2 => op.mono _ _ _ _ (fun t q3 => i _ _ q3) q2) q1) q⟩
  rintro ⟨H0, M0, F, Γ, O, st, hw⟩
  refine ⟨H0, M0, F, Γ, O, st, ha.mono _ _ _ (fun t1 Γ1 q1 v1 H1 F1 B1 O1 c1 r1 => ?_) hw⟩
  refine ⟨H0, M0, F1, Γ1, O1, c1.st, hb.mono _ _ _ (fun t2 Γ2 q2 v2 H2 F2 B2 O2 c2 r2 => ?_) q1⟩
  refine op.ok (F2 ++ O2) H2 t1 v1 B1 t2 v2 B2 _ Q (r1.ext c2.ext fun a _ o e => c2.same a o e) r2 q2 fun t v H' Od p n => ?_
  obtain ⟨c, fr, rr⟩ := (c1.trans c2).fin n
  exact p v H' Od O2 c fr rr
/-- a one-place operation -/
structure Op1 (K : PySem.W.Frag) (r : V → Hp → VK → Prop) (f : OT → (OT → Prop) → Prop) : Prop where
  mono : ∀ t1 (P P' : OT → Prop), (∀ t, P t → P' t) → f t1 P → f t1 P'
  ok : ∀ (G : List Addr) (H : Hp) t1 v1 B1 P (Q : VK), RepO K H G t1 v1 B1 → f t1 P → (∀ t v H' Od, P t → New K G H t v H' Od → Q v H') → r v1 H Q
theorem XE.un {r : V → Hp → VK → Prop} {f : OT → (OT → Prop) → Prop} (op : Op1 X.K r f) (ha : XU X a wa) (h : PE X a (LU X.K wa) → PE X e (fun σ H Q => LU X.K wa σ H fun x H1 => r x H1 Q)) :
    XE X e (fun Γ R => wa Γ fun t1 Γ1 => f t1 fun t => R t Γ1) := by
  refine ⟨peW (h ha.pe) fun σ H Q => ?_, fun Γ P P' i q => ha.mono _ _ _ (fun t1 Γ1 q1 => op.mono _ _ _ (fun t q3 => i _ _ q3) q1) q⟩
  rintro ⟨H0, M0, F, Γ, O, st, hw⟩
  refine ⟨H0, M0, F, Γ, O, st, ha.mono _ _ _ (fun t1 Γ1 q1 v1 H1 F1 B1 O1 c1 r1 => ?_) hw⟩
  refine op.ok (F1 ++ O1) H1 t1 v1 B1 _ Q r1 q1 fun t v H' Od p n => ?_
  obtain ⟨c, fr, rr⟩ := c1.fin n
  exact p v H' Od O1 c fr rr
/-- a constant -/
theorem XE.con {d : D} {v : V} (h : PE X e (tC v)) (r : ∀ H G, Rep X.K H G d v) : XE X e (fun Γ R => R (.sh d) Γ) := by
  refine ⟨peW h fun σ H Q => ?_, fun Γ P P' i q => i _ _ q⟩
  rintro ⟨H0, M0, F, Γ, O, st, hw⟩
  obtain ⟨c, fr, rr⟩ := (Chn.refl st).fin (New.here (r H (F ++ O)))
  exact hw v H [] O c fr rr
/-- a temporary dropped, the value shared from now on -/
theorem Chn.dropped {K : PySem.W.Frag} {H0 : Hp} {M0 F : List Addr} {Γ1 : Env'} {σ : St} {H H1 : Hp} {O O1 Od : List Addr} {t : OT} {v : V} {Γ : Env'} (st : SOk K H0 M0 F Γ σ H O) (c1 : Chn K H0 M0 F σ H O Γ1 H1 (F ++ Od) O1) (fr : ∀ a ∈ Od, a ∈ O ∨ H a = none)
    (r1 : RepO K H1 ((F ++ Od) ++ O1) t v Od) : Rep K H1 (F ++ O1) t.val v := by
  refine r1.drop (.sub fun a m => by simp only [List.mem_append] at m ⊢; rcases m with m | m <;> simp [m]) fun a m z => ?_
  rcases List.mem_append.mp z with z | z
  · rcases fr a m with y | y
    · exact st.dj a y z
    · obtain ⟨o, eo⟩ := st.trk a (List.mem_append_left _ z)
      rw [y] at eo; cases eo
  · exact c1.st.dj a z (List.mem_append_right _ m)
/-! arguments -/
def waNil : WA := fun Γ R => R [] Γ
def waCons (w : WE) (wr : WA) : WA := fun Γ R => w Γ fun t Γ1 => wr Γ1 fun ds Γ2 => R (t.val :: ds) Γ2
theorem XA.nil : XA X [] waNil := by
  refine ⟨⟨fun pos pins s σ H Q I h => (pa_nil (X := X)).run pos pins s σ H Q I ?_⟩, fun Γ P P' i q => i _ _ q⟩
  obtain ⟨H0, M0, F, Γ, O, st, q⟩ := h
  exact q [] H O (.refl st) .nil
theorem XA.cons {wr : WA} (he : XE X e w) (hr : XA X es wr) (hs : starEach (e :: es) X.env = (false, eval e X.env) :: starEach es X.env) : XA X (e :: es) (waCons w wr) := by
  refine ⟨⟨fun pos pins s σ H Q I h => (pa_cons he.pe hr.pa hs).run pos pins s σ H Q I ?_⟩, fun Γ P P' i q => he.mono _ _ _ (fun t Γ1 q1 => hr.mono _ _ _ (fun ds Γ2 q2 => i _ _ q2) q1) q⟩
  obtain ⟨H0, M0, F, Γ, O, st, q⟩ := h
  refine ⟨H0, M0, F, Γ, O, st, he.mono _ _ _ (fun t Γ1 q1 v H1 Od O1 c1 fr r1 => ?_) q⟩
  have rv : Rep X.K H1 (F ++ O1) t.val v := c1.dropped st fr r1
  have c1' := c1.base
  refine ⟨H0, M0, F, Γ1, O1, c1'.st, hr.mono _ _ _ (fun ds Γ2 q2 vs H2 O2 c2 r2 => ?_) q1⟩
  exact q2 (v :: vs) H2 O2 (c1'.trans c2) (.cons (rv.ext c2.ext) r2)
end
end EV

set_option maxHeartbeats 4000000
/-! Ev, part C: operators, comparisons, subscripts, built-in functions. -/
namespace EV
open PySem PySem.Spec L2

/-! new objects -/
section
variable {K : PySem.W.Frag} {G : List Addr} {H : Hp} {p : Addr}
theorem ext_upd {o : HO} (hp : H p = none) : Ext G H (G ++ [p]) (upd H p o) := .of_same (fun a u e => by rw [upd_ne (ne_of_none e hp)]; exact e) fun a m => by
  rcases List.mem_append.mp m with m | m
  · exact .inl m
  · simp at m; subst m; exact .inr hp
theorem ext_upd0 {o : HO} (hp : H p = none) : Ext G H G (upd H p o) := .of_same (fun a u e => by rw [upd_ne (ne_of_none e hp)]; exact e) fun a m => .inl m
theorem New.tup {ds : List D} {vs : List V} (hp : H p = none) (r : Reps K H G ds vs) : New K G H (.sh (.tup ds)) (.ref p) (upd H p (.tup vs)) [] where
  same := fun a u e => by rw [upd_ne (ne_of_none e hp)]; exact e
  fre := fun _ m => nomatch m
  trk := fun _ m => nomatch m
  rep := .sh (.tup upd_same (by simpa using r.ext (ext_upd0 hp)))
theorem New.lst {ds : List D} {vs : List V} (hp : H p = none) (r : Reps K H G ds vs) : New K G H (.lst ds) (.ref p) (upd H p (.lst vs)) [p] where
  same := fun a u e => by rw [upd_ne (ne_of_none e hp)]; exact e
  fre := fun a m => by simp at m; subst m; exact hp
  trk := fun a m => by simp at m; subst m; exact ⟨_, upd_same⟩
  rep := .lst upd_same (r.ext (ext_upd hp))
theorem New.dK {kvs : List (Key × V)} {ds : List (Key × D)} (hp : H p = none) (e : ds.map (·.1) = kvs.map (·.1)) (r : Reps K H G (ds.map (·.2)) (kvs.map (·.2))) : New K G H (.dK ds) (.ref p) (upd H p (.dK kvs)) [p] where
  same := fun a u e => by rw [upd_ne (ne_of_none e hp)]; exact e
  fre := fun a m => by simp at m; subst m; exact hp
  trk := fun a m => by simp at m; subst m; exact ⟨_, upd_same⟩
  rep := .dK upd_same e (r.ext (ext_upd hp))
theorem New.dT {kvs : List (List Key × V)} {ds : List (List Key × D)} (hp : H p = none) (e : ds.map (·.1) = kvs.map (·.1)) (r : Reps K H G (ds.map (·.2)) (kvs.map (·.2))) : New K G H (.dT ds) (.ref p) (upd H p (.dT kvs)) [p] where
  same := fun a u e => by rw [upd_ne (ne_of_none e hp)]; exact e
  fre := fun a m => by simp at m; subst m; exact hp
  trk := fun a m => by simp at m; subst m; exact ⟨_, upd_same⟩
  rep := .dT upd_same e (r.ext (ext_upd hp))
end

section
variable {X : Cx} {a b e : Expr} {es : List Expr} {wa wb w : WE} {wr : WA} {pos : Pos}
def wTup (wr : WA) : WE := fun Γ R => wr Γ fun ds Γ' => ds.length ≤ sizeLine ∧ R (.sh (.tup ds)) Γ'
def wLst (wr : WA) : WE := fun Γ R => wr Γ fun ds Γ' => ds.length ≤ sizeLine ∧ R (.lst ds) Γ'
theorem XE.tup {x1 : Nat} (h : XA X es wr) : XE X (.Tuple es x1 pos) (wTup wr) := by
  refine ⟨peW (pe_tup h.pa) fun σ H Q => ?_, fun Γ P P' i q => h.mono _ _ _ (fun ds Γ1 q1 => ⟨q1.1, i _ _ q1.2⟩) q⟩
  rintro ⟨H0, M0, F, Γ, O, st, hw⟩
  refine ⟨H0, M0, F, Γ, O, st, h.mono _ _ _ (fun ds Γ1 q vs H1 O1 c r => ⟨by rw [← r.length]; exact q.1, fun p hp => ?_⟩) hw⟩
  obtain ⟨c', fr, rr⟩ := c.fin (New.tup hp r)
  exact q.2 _ _ _ _ c' fr rr
theorem XE.lst (h : XA X es wr) : XE X (.List es pos) (wLst wr) := by
  refine ⟨peW (pe_lst h.pa) fun σ H Q => ?_, fun Γ P P' i q => h.mono _ _ _ (fun ds Γ1 q1 => ⟨q1.1, i _ _ q1.2⟩) q⟩
  rintro ⟨H0, M0, F, Γ, O, st, hw⟩
  refine ⟨H0, M0, F, Γ, O, st, h.mono _ _ _ (fun ds Γ1 q vs H1 O1 c r => ⟨by rw [← r.length]; exact q.1, fun p hp => ?_⟩) hw⟩
  obtain ⟨c', fr, rr⟩ := c.fin (New.lst hp r)
  exact q.2 _ _ _ _ c' fr rr
/-- {} -/
theorem XE.dnewK : XE X (.Dict [] [] pos) (fun Γ R => R (.dK []) Γ) := by
  refine ⟨peW pe_dnewK fun σ H Q => ?_, fun Γ P P' i q => i _ _ q⟩
  rintro ⟨H0, M0, F, Γ, O, st, hw⟩ p hp
  obtain ⟨c', fr, rr⟩ := (Chn.refl st).fin (New.dK (K := X.K) (kvs := []) (ds := []) hp rfl .nil)
  exact hw _ _ _ _ c' fr rr
theorem XE.dnewT : XE X (.Dict [] [] pos) (fun Γ R => R (.dT []) Γ) := by
  refine ⟨peW pe_dnewT fun σ H Q => ?_, fun Γ P P' i q => i _ _ q⟩
  rintro ⟨H0, M0, F, Γ, O, st, hw⟩ p hp
  obtain ⟨c', fr, rr⟩ := (Chn.refl st).fin (New.dT (K := X.K) (kvs := []) (ds := []) hp rfl .nil)
  exact hw _ _ _ _ c' fr rr
end

/-! ### what a value is, read -/
section
variable {K : PySem.W.Frag} {G : List Addr} {H : Hp}
theorem RepO.int {i : Int} {v : V} {B : List Addr} (r : RepO K H G (.sh (.int i)) v B) : v = .int i := by
  cases r with
  | sh h => cases h; rfl
theorem RepO.str {x : Str} {v : V} {B : List Addr} (r : RepO K H G (.sh (.str x)) v B) : v = .str x := by
  cases r with
  | sh h => cases h; rfl
theorem RepO.bl {x : Bool} {v : V} {B : List Addr} (r : RepO K H G (.sh (.bl x)) v B) : v = .bl x := by
  cases r with
  | sh h => cases h; rfl
theorem RepO.non {v : V} {B : List Addr} (r : RepO K H G (.sh .non) v B) : v = .non := by
  cases r with
  | sh h => cases h; rfl
theorem Rep.tupAt {ds : List D} {v : V} (r : Rep K H G (.tup ds) v) : ∃ p vs, v = .ref p ∧ SqT K H p vs ∧ Reps K H G ds vs := by
  cases r with
  | tup h q => exact ⟨_, _, rfl, .inl (.inl h), q⟩
theorem RepO.tupAt {ds : List D} {v : V} {B : List Addr} (r : RepO K H G (.sh (.tup ds)) v B) : ∃ p vs, v = .ref p ∧ SqT K H p vs ∧ Reps K H G ds vs := by
  cases r with
  | sh h => exact h.tupAt
/-- the items of a list, owned or not -/
def OT.asL : OT → Option (List D)
  | .sh (.lst xs) => some xs
  | .lst xs => some xs
  | _ => none
/-- .. the script too, read alone -/
def OT.asR : OT → Option (List D)
  | .sh (.lst xs) => some xs
  | .sh (.fz xs) => some xs
  | .lst xs => some xs
  | _ => none
theorem RepO.lstAt {t : OT} {ds : List D} {v : V} {B : List Addr} (r : RepO K H G t v B) (e : t.asL = some ds) : ∃ p vs, v = .ref p ∧ H p = some (.lst vs) ∧ Reps K H G ds vs := by
  cases r with
  | sh h =>
    cases h <;> simp [OT.asL] at e
    rename_i h1 h2 h3
    subst e
    exact ⟨_, _, rfl, h1, h3⟩
  | lst h q => simp [OT.asL] at e; subst e; exact ⟨_, _, rfl, h, q⟩
  | _ => simp [OT.asL] at e
theorem RepO.seqAt {t : OT} {ds : List D} {v : V} {B : List Addr} (r : RepO K H G t v B) (e : t.asR = some ds) : ∃ p vs, v = .ref p ∧ SqL K H p vs ∧ Reps K H G ds vs := by
  cases r with
  | sh h =>
    cases h <;> simp [OT.asR] at e
    · rename_i h1 h2 h3
      subst e
      exact ⟨_, _, rfl, .inl (.inl h1), h3⟩
    · rename_i h1 h3
      subst e
      exact ⟨_, _, rfl, h1.elim (fun z => .inl z.1) .inr, h3⟩
  | lst h q => simp [OT.asR] at e; subst e; exact ⟨_, _, rfl, .inl (.inl h), q⟩
  | _ => simp [OT.asR] at e
end

/-! ### arithmetic -/
def intsD (C : Int → Int → Prop) (g : Int → Int → D) : OT → OT → (OT → Prop) → Prop
  | .sh (.int i), .sh (.int j), P => C i j ∧ P (.sh (g i j))
  | _, _, _ => False
theorem intsD_inv {C : Int → Int → Prop} {g : Int → Int → D} {t1 t2 : OT} {P : OT → Prop} (h : intsD C g t1 t2 P) : ∃ i j, t1 = .sh (.int i) ∧ t2 = .sh (.int j) ∧ C i j ∧ P (.sh (g i j)) := by
  unfold intsD at h
  split at h
  · exact ⟨_, _, rfl, rfl, h.1, h.2⟩
  · exact h.elim
theorem intsD_mk {C : Int → Int → Prop} {g : Int → Int → D} {i j : Int} {P : OT → Prop} (c : C i j) (h : P (.sh (g i j))) : intsD C g (.sh (.int i)) (.sh (.int j)) P := ⟨c, h⟩
theorem Op2.ints {K : PySem.W.Frag} {C : Int → Int → Prop} {gv : Int → Int → V} {g : Int → Int → D} (hg : ∀ i j H G, Rep K H G (g i j) (gv i j)) : Op2 K (rI C gv) (intsD C g) where
  mono := fun t1 t2 P P' i h => by
    obtain ⟨a, b, rfl, rfl, c, p⟩ := intsD_inv h
    exact intsD_mk c (i _ p)
  ok := fun G H t1 v1 B1 t2 v2 B2 P Q r1 r2 h q => by
    obtain ⟨a, b, rfl, rfl, c, p⟩ := intsD_inv h
    exact ⟨a, b, r1.int, r2.int, c, q _ _ _ _ p (.here (hg a b H G))⟩
theorem Op2.ints0 {K : PySem.W.Frag} {gv : Int → Int → V} {g : Int → Int → D} (hg : ∀ i j H G, Rep K H G (g i j) (gv i j)) : Op2 K (rI0 gv) (intsD (fun _ _ => True) g) where
  mono := fun t1 t2 P P' i h => by
    obtain ⟨a, b, rfl, rfl, c, p⟩ := intsD_inv h
    exact intsD_mk c (i _ p)
  ok := fun G H t1 v1 B1 t2 v2 B2 P Q r1 r2 h q => by
    obtain ⟨a, b, rfl, rfl, c, p⟩ := intsD_inv h
    exact ⟨a, b, r1.int, r2.int, q _ _ _ _ p (.here (hg a b H G))⟩
theorem Op2.imp {K : PySem.W.Frag} {r r' : R2} {f : OT → OT → (OT → Prop) → Prop} (o : Op2 K r f) (h : ∀ x y H Q, r x y H Q → r' x y H Q) : Op2 K r' f :=
  ⟨o.mono, fun G H t1 v1 B1 t2 v2 B2 P Q r1 r2 q1 q2 => h _ _ _ _ (o.ok G H t1 v1 B1 t2 v2 B2 P Q r1 r2 q1 q2)⟩
/-- two operations by what stands there: the first that says something -/
theorem Op2.or {K : PySem.W.Frag} {r r' : R2} {f f' : OT → OT → (OT → Prop) → Prop} (o : Op2 K r f) (o' : Op2 K r' f') : Op2 K (fun x y H Q => r x y H Q ∨ r' x y H Q) (fun t1 t2 P => f t1 t2 P ∨ f' t1 t2 P) where
  mono := fun t1 t2 P P' i h => h.imp (o.mono _ _ _ _ i) (o'.mono _ _ _ _ i)
  ok := fun G H t1 v1 B1 t2 v2 B2 P Q r1 r2 h q => h.imp (fun z => o.ok G H t1 v1 B1 t2 v2 B2 P Q r1 r2 z q) (fun z => o'.ok G H t1 v1 B1 t2 v2 B2 P Q r1 r2 z q)
section
variable {X : Cx} {a b c e : Expr} {es : List Expr} {wa wb wc w : WE} {wr : WA} {pos : Pos}
def wBin (f : OT → OT → (OT → Prop) → Prop) (wa wb : WE) : WE := fun Γ R => wa Γ fun t1 Γ1 => wb Γ1 fun t2 Γ2 => f t1 t2 fun t => R t Γ2
def fAdd := intsD (fun _ _ => True) fun i j => .int (i + j)
def fSub := intsD (fun _ _ => True) fun i j => .int (i - j)
def fMul := intsD CMul fun i j => .int (i * j)
def fFdiv := intsD CDivN fun i j => .int (i.fdiv j)
def fMod := intsD (fun _ j => j ≠ 0) fun i j => .int (i.fmod j)
def fPow := intsD CPow fun i j => .int (i ^ j.toNat)
def fAddS : OT → OT → (OT → Prop) → Prop := fun t1 t2 P => ∃ x y, t1 = .sh (.str x) ∧ t2 = .sh (.str y) ∧ x.length + y.length ≤ sizeLine ∧ P (.sh (.str (x ++ y)))
def fAddT : OT → OT → (OT → Prop) → Prop := fun t1 t2 P => ∃ xs ys, t1 = .sh (.tup xs) ∧ t2 = .sh (.tup ys) ∧ xs.length + ys.length ≤ sizeLine ∧ P (.sh (.tup (xs ++ ys)))
def fAddL : OT → OT → (OT → Prop) → Prop := fun t1 t2 P => ∃ xs ys, t1.asL = some xs ∧ t2.asL = some ys ∧ xs.length + ys.length ≤ sizeLine ∧ P (.lst (xs ++ ys))
def fRep : OT → OT → (OT → Prop) → Prop := fun t1 t2 P => ∃ xs k, t1.asL = some xs ∧ t2 = .sh (.int k) ∧ -(2 ^ 63) ≤ k ∧ k < 2 ^ 63 ∧ xs.length * k.toNat ≤ sizeLine ∧ P (.lst (List.replicate k.toNat xs).flatten)
theorem op2_addS {K : PySem.W.Frag} : Op2 K (fun x y H Q => ∃ i j, x = .str i ∧ y = .str j ∧ i.length + j.length ≤ sizeLine ∧ Q (.str (i ++ j)) H) fAddS where
  mono := fun t1 t2 P P' i ⟨x, y, e1, e2, z, p⟩ => ⟨x, y, e1, e2, z, i _ p⟩
  ok := fun G H t1 v1 B1 t2 v2 B2 P Q r1 r2 ⟨x, y, e1, e2, z, p⟩ q => by
    subst e1 e2
    exact ⟨x, y, r1.str, r2.str, z, q _ _ _ _ p (.here (.str _))⟩
theorem op2_addT {K : PySem.W.Frag} : Op2 K (rCatA K) fAddT where
  mono := fun t1 t2 P P' i ⟨x, y, e1, e2, z, p⟩ => ⟨x, y, e1, e2, z, i _ p⟩
  ok := fun G H t1 v1 B1 t2 v2 B2 P Q r1 r2 ⟨xs, ys, e1, e2, z, p⟩ q => by
    subst e1 e2
    obtain ⟨p1, vs, rfl, h1, q1⟩ := r1.tupAt
    obtain ⟨p2, ws, rfl, h2, q2⟩ := r2.tupAt
    have el1 := q1.length
    have el2 := q2.length
    refine ⟨p1, p2, vs, ws, rfl, rfl, h1, h2, by omega, fun en => ?_, fun _ en => ?_, fun _ _ p' hp => q _ _ _ _ p (.tup hp (q1.append q2))⟩
    · have e0 : xs = [] := List.length_eq_zero_iff.mp (by rw [el1, en]; rfl)
      subst e0
      cases r2 with
      | sh r2 => exact q _ _ _ _ p (.here (by simpa using r2))
    · have e0 : ys = [] := List.length_eq_zero_iff.mp (by rw [el2, en]; rfl)
      subst e0
      cases r1 with
      | sh r1 => exact q _ _ _ _ p (.here (by simpa using r1))
theorem op2_addL {K : PySem.W.Frag} : Op2 K rCat fAddL where
  mono := fun t1 t2 P P' i ⟨x, y, e1, e2, z, p⟩ => ⟨x, y, e1, e2, z, i _ p⟩
  ok := fun G H t1 v1 B1 t2 v2 B2 P Q r1 r2 ⟨xs, ys, e1, e2, z, p⟩ q => by
    obtain ⟨p1, vs, rfl, h1, q1⟩ := r1.lstAt e1
    obtain ⟨p2, ws, rfl, h2, q2⟩ := r2.lstAt e2
    have el1 := q1.length
    have el2 := q2.length
    exact ⟨p1, p2, vs, ws, rfl, rfl, h1, h2, by omega, fun p' hp => q _ _ _ _ p (.lst hp (q1.append q2))⟩
theorem Reps.rep {K : PySem.W.Frag} {H : Hp} {G : List Addr} {ds : List D} {vs : List V} (r : Reps K H G ds vs) : ∀ k : Nat, Reps K H G (List.replicate k ds).flatten (List.replicate k vs).flatten
  | 0 => .nil
  | k + 1 => by
    rw [List.replicate_succ, List.replicate_succ, List.flatten_cons, List.flatten_cons]
    exact r.append (Reps.rep r k)
theorem op2_rep {K : PySem.W.Frag} : Op2 K rRep fRep where
  mono := fun t1 t2 P P' i ⟨x, y, e1, e2, z1, z2, z3, p⟩ => ⟨x, y, e1, e2, z1, z2, z3, i _ p⟩
  ok := fun G H t1 v1 B1 t2 v2 B2 P Q r1 r2 ⟨xs, k, e1, e2, z1, z2, z3, p⟩ q => by
    obtain ⟨p1, vs, rfl, h1, q1⟩ := r1.lstAt e1
    subst e2
    have el1 := q1.length
    exact ⟨p1, k, vs, rfl, r2.int, h1, z1, z2, by rw [← el1]; exact z3, fun p' hp => q _ _ _ _ p (.lst hp (q1.rep _))⟩
theorem XE.add (ha : XU X a wa) (hb : XU X b wb) : XE X (.BinOp a .Add b pos) (wBin fAdd wa wb) := .bin (.ints0 fun _ _ _ _ => .int _) ha hb (pe_op op_add)
theorem XE.sub (ha : XU X a wa) (hb : XU X b wb) : XE X (.BinOp a .Sub b pos) (wBin fSub wa wb) := .bin (.ints0 fun _ _ _ _ => .int _) ha hb (pe_op op_sub)
theorem XE.mul (ha : XU X a wa) (hb : XU X b wb) : XE X (.BinOp a .Mult b pos) (wBin fMul wa wb) := .bin (.ints fun _ _ _ _ => .int _) ha hb (pe_op op_mul)
theorem XE.fdiv (ha : XU X a wa) (hb : XU X b wb) : XE X (.BinOp a .FloorDiv b pos) (wBin fFdiv wa wb) := .bin (.ints fun _ _ _ _ => .int _) ha hb (pe_op op_fdivN)
theorem XE.mod (ha : XU X a wa) (hb : XU X b wb) : XE X (.BinOp a .Mod b pos) (wBin fMod wa wb) := .bin (.ints fun _ _ _ _ => .int _) ha hb (pe_op op_modN)
theorem XE.pow (ha : XU X a wa) (hb : XU X b wb) : XE X (.BinOp a .Pow b pos) (wBin fPow wa wb) := .bin (.ints fun _ _ _ _ => .int _) ha hb (pe_op op_pow)
theorem XE.addS (ha : XU X a wa) (hb : XU X b wb) : XE X (.BinOp a .Add b pos) (wBin fAddS wa wb) := .bin op2_addS ha hb (pe_op op_add_str)
theorem XE.addT (ha : XU X a wa) (hb : XU X b wb) : XE X (.BinOp a .Add b pos) (wBin fAddT wa wb) := .bin op2_addT ha hb (pe_op op_catA)
theorem XE.addL (ha : XU X a wa) (hb : XU X b wb) : XE X (.BinOp a .Add b pos) (wBin fAddL wa wb) := .bin op2_addL ha hb (pe_op op_cat)
theorem XE.rep (ha : XU X a wa) (hb : XU X b wb) : XE X (.BinOp a .Mult b pos) (wBin fRep wa wb) := .bin op2_rep ha hb (pe_op op_rep)

/-! ### == by data -/
mutual
def D.py : D → Option PyData
  | .non => some .none
  | .bl b => some (.bool b)
  | .int i => some (.int i)
  | .str x => some (.str x)
  | .tup xs => (D.pys xs).map .tuple
  | .stc xs => (D.pys xs).map .tuple
  | .lst xs => (D.pys xs).map .list
  | _ => none
def D.pys : List D → Option (List PyData)
  | [] => some []
  | d :: ds => (D.py d).bind fun x => (D.pys ds).map (x :: ·)
end
section
variable {K : PySem.W.Frag} {G : List Addr} {H : Hp}
mutual
theorem Rep.dp : ∀ {d : D} {v : V} {y : PyData}, Rep K H G d v → d.py = some y → Dp K H v y
  | _, _, _, .non, e => by cases e; exact .non
  | _, _, _, .bl b, e => by cases e; exact .bl b
  | _, _, _, .int i, e => by cases e; exact .int i
  | _, _, _, .str x, e => by cases e; exact .str x
  | _, _, _, .tup (ds := ds) h r, e => by
    cases q : D.pys ds with
    | none => simp [D.py, q] at e
    | some ys => simp [D.py, q] at e; subst e; exact .tup (.inl (.inl h)) (Reps.dp r q)
  | _, _, _, .tupK (ds := ds) h r, e => by
    cases q : D.pys ds with
    | none => simp [D.py, q] at e
    | some ys => simp [D.py, q] at e; subst e; exact .tup (.inr h) (Reps.dp r q)
  | _, _, _, .lst (ds := ds) h _ r, e => by
    cases q : D.pys ds with
    | none => simp [D.py, q] at e
    | some ys => simp [D.py, q] at e; subst e; exact .lst (.inl (.inl h)) (Reps.dp r q)
  | _, _, _, .fz h r, e => by simp [D.py] at e
  | _, _, _, .dK h _ _ r, e => by simp [D.py] at e
  | _, _, _, .dT h _ _ r, e => by simp [D.py] at e
  | _, _, _, .ins h _ _ r, e => by simp [D.py] at e
theorem Reps.dp : ∀ {ds : List D} {vs : List V} {ys : List PyData}, Reps K H G ds vs → D.pys ds = some ys → DpAll K H vs ys
  | _, _, _, .nil, e => by cases e; exact .nil
  | _, _, _, .cons (d := d) (ds := ds) h t, e => by
    cases q : D.py d with
    | none => simp [D.pys, q] at e
    | some y =>
      cases q2 : D.pys ds with
      | none => simp [D.pys, q, q2] at e
      | some ys => simp [D.pys, q, q2] at e; subst e; exact .cons (Rep.dp h q) (Reps.dp t q2)
end
theorem RepO.dp {t : OT} {v : V} {B : List Addr} {y : PyData} (r : RepO K H G t v B) (e : t.val.py = some y) : Dp K H v y := by
  cases r with
  | sh h => exact h.dp e
  | lst h q =>
    rename_i vs ds
    cases qq : D.pys ds with
    | none => simp [OT.val, D.py, qq] at e
    | some ys => simp [OT.val, D.py, qq] at e; subst e; exact .lst (.inl (.inl h)) (q.dp qq)
  | _ => simp [OT.val, D.py] at e
end
def fEq : OT → OT → (OT → Prop) → Prop := fun t1 t2 P => ∃ x y, t1.val.py = some x ∧ t2.val.py = some y ∧ SeqAt.shaped x = true ∧ SeqAt.shaped y = true ∧ P (.sh (.bl (PyData.eqv x y)))
def fNe : OT → OT → (OT → Prop) → Prop := fun t1 t2 P => ∃ x y, t1.val.py = some x ∧ t2.val.py = some y ∧ SeqAt.shaped x = true ∧ SeqAt.shaped y = true ∧ P (.sh (.bl (!PyData.eqv x y)))
theorem op2_eq {K : PySem.W.Frag} : Op2 K (rEqD K) fEq where
  mono := fun t1 t2 P P' i ⟨x, y, e1, e2, z1, z2, p⟩ => ⟨x, y, e1, e2, z1, z2, i _ p⟩
  ok := fun G H t1 v1 B1 t2 v2 B2 P Q r1 r2 ⟨x, y, e1, e2, z1, z2, p⟩ q => ⟨x, y, r1.dp e1, r2.dp e2, z1, z2, q _ _ _ _ p (.here (.bl _))⟩
theorem op2_ne {K : PySem.W.Frag} : Op2 K (rNeD K) fNe where
  mono := fun t1 t2 P P' i ⟨x, y, e1, e2, z1, z2, p⟩ => ⟨x, y, e1, e2, z1, z2, i _ p⟩
  ok := fun G H t1 v1 B1 t2 v2 B2 P Q r1 r2 ⟨x, y, e1, e2, z1, z2, p⟩ q => ⟨x, y, r1.dp e1, r2.dp e2, z1, z2, q _ _ _ _ p (.here (.bl _))⟩
/-- a comparison by its rule, as a value and as a test -/
structure CmpOk (X : Cx) (op : CmpOp) (r : R2) (f : OT → OT → (OT → Prop) → Prop) : Prop where
  run : OpR X (compareOp op) r
  op : Op2 X.K r f
def fBl (p : Int → Int → Bool) := intsD (fun _ _ => True) fun i j => .bl (p i j)
theorem cLt : CmpOk X .Lt (rI0 fun i j => .bl (decide (i < j))) (fBl fun i j => decide (i < j)) := ⟨op_lt, .ints0 fun _ _ _ _ => .bl _⟩
theorem cLe : CmpOk X .LtE (rI0 fun i j => .bl (decide (i ≤ j))) (fBl fun i j => decide (i ≤ j)) := ⟨op_le, .ints0 fun _ _ _ _ => .bl _⟩
theorem cGt : CmpOk X .Gt (rI0 fun i j => .bl (decide (j < i))) (fBl fun i j => decide (j < i)) := ⟨op_gt, .ints0 fun _ _ _ _ => .bl _⟩
theorem cGe : CmpOk X .GtE (rI0 fun i j => .bl (decide (j ≤ i))) (fBl fun i j => decide (j ≤ i)) := ⟨op_ge, .ints0 fun _ _ _ _ => .bl _⟩
theorem cEq (hu : X.A.units + 64 < cLine) : CmpOk X .Eq (rEqD X.K) fEq := ⟨op_eqD hu, op2_eq⟩
theorem cNe (hu : X.A.units + 64 < cLine) : CmpOk X .NotEq (rNeD X.K) fNe := ⟨op_neD hu, op2_ne⟩
def fIsN : OT → OT → (OT → Prop) → Prop := fun t1 t2 P => t2 = .sh .non ∧ ((t1 = .sh .non ∧ P (.sh (.bl true))) ∨ (t1.val ≠ .non ∧ P (.sh (.bl false))))
def fNotN : OT → OT → (OT → Prop) → Prop := fun t1 t2 P => t2 = .sh .non ∧ ((t1 = .sh .non ∧ P (.sh (.bl false))) ∨ (t1.val ≠ .non ∧ P (.sh (.bl true))))
theorem RepO.ne_non {K : PySem.W.Frag} {G : List Addr} {H : Hp} {t : OT} {v : V} {B : List Addr} (r : RepO K H G t v B) (h : t.val ≠ .non) : v ≠ .non := by
  rintro rfl
  cases r with
  | sh q => cases q; exact h rfl
theorem cIs : CmpOk X .Is (fun x y H Q => y = .non ∧ Q (.bl (decide (x = .non))) H) fIsN := ⟨op_isN, {
  mono := fun t1 t2 P P' i ⟨e, h⟩ => ⟨e, h.imp (fun z => ⟨z.1, i _ z.2⟩) fun z => ⟨z.1, i _ z.2⟩⟩
  ok := fun G H t1 v1 B1 t2 v2 B2 P Q r1 r2 ⟨e, h⟩ q => by
    subst e
    refine ⟨r2.non, ?_⟩
    rcases h with ⟨e1, p⟩ | ⟨e1, p⟩
    · subst e1
      rw [r1.non, decide_eq_true rfl]
      exact q _ _ _ _ p (.here (.bl _))
    · rw [decide_eq_false (r1.ne_non e1)]
      exact q _ _ _ _ p (.here (.bl _)) }⟩
theorem cIsNot : CmpOk X .IsNot (fun x y H Q => y = .non ∧ Q (.bl (!decide (x = .non))) H) fNotN := ⟨op_notN, {
  mono := fun t1 t2 P P' i ⟨e, h⟩ => ⟨e, h.imp (fun z => ⟨z.1, i _ z.2⟩) fun z => ⟨z.1, i _ z.2⟩⟩
  ok := fun G H t1 v1 B1 t2 v2 B2 P Q r1 r2 ⟨e, h⟩ q => by
    subst e
    refine ⟨r2.non, ?_⟩
    rcases h with ⟨e1, p⟩ | ⟨e1, p⟩
    · subst e1
      rw [r1.non, decide_eq_true rfl]
      exact q _ _ _ _ p (.here (.bl _))
    · rw [decide_eq_false (r1.ne_non e1)]
      exact q _ _ _ _ p (.here (.bl _)) }⟩
def strsD (g : Str → Str → Bool) : OT → OT → (OT → Prop) → Prop := fun t1 t2 P => ∃ x y, t1 = .sh (.str x) ∧ t2 = .sh (.str y) ∧ P (.sh (.bl (g x y)))
theorem Op2.strs {K : PySem.W.Frag} {g : Str → Str → Bool} : Op2 K (fun x y H Q => ∃ i j, x = .str i ∧ y = .str j ∧ Q (.bl (g i j)) H) (strsD g) where
  mono := fun t1 t2 P P' i ⟨x, y, e1, e2, p⟩ => ⟨x, y, e1, e2, i _ p⟩
  ok := fun G H t1 v1 B1 t2 v2 B2 P Q r1 r2 ⟨x, y, e1, e2, p⟩ q => by
    subst e1 e2
    exact ⟨x, y, r1.str, r2.str, q _ _ _ _ p (.here (.bl _))⟩
def rGeS : R2 := fun x y H Q => ∃ i j, x = .str i ∧ y = .str j ∧ Q (.bl (!decide (i.cps.toList < j.cps.toList))) H
def rInS (neg : Bool) : R2 := fun x y H Q => ∃ (c : Nat) (z : Str), x = .str ⟨#[c]⟩ ∧ y = .str z ∧ Q (.bl (if neg then !decide (c ∈ z.cps.toList) else decide (c ∈ z.cps.toList))) H
theorem cGeS : CmpOk X .GtE rGeS (strsD fun i j => !decide (i.cps.toList < j.cps.toList)) := ⟨op_ge_str, .strs⟩
/-- one sign in a text -/
def fInS (neg : Bool) : OT → OT → (OT → Prop) → Prop := fun t1 t2 P => ∃ (c : Nat) (z : Str), t1 = .sh (.str ⟨#[c]⟩) ∧ t2 = .sh (.str z) ∧ P (.sh (.bl (if neg then !decide (c ∈ z.cps.toList) else decide (c ∈ z.cps.toList))))
theorem cInS : CmpOk X .In (rInS false) (fInS false) := ⟨op_in_sign, {
  mono := fun t1 t2 P P' i ⟨x, y, e1, e2, p⟩ => ⟨x, y, e1, e2, i _ p⟩
  ok := fun G H t1 v1 B1 t2 v2 B2 P Q r1 r2 ⟨x, y, e1, e2, p⟩ q => by
    subst e1 e2
    exact ⟨x, y, r1.str, r2.str, q _ _ _ _ p (.here (.bl _))⟩ }⟩
theorem cNotInS : CmpOk X .NotIn (rInS true) (fInS true) := ⟨op_notIn_sign, {
  mono := fun t1 t2 P P' i ⟨x, y, e1, e2, p⟩ => ⟨x, y, e1, e2, i _ p⟩
  ok := fun G H t1 v1 B1 t2 v2 B2 P Q r1 r2 ⟨x, y, e1, e2, p⟩ q => by
    subst e1 e2
    exact ⟨x, y, r1.str, r2.str, q _ _ _ _ p (.here (.bl _))⟩ }⟩
/-- in a tuple of ints and texts -/
def keyD : Key → D
  | .inl i => .int i
  | .inr x => .str x
def kMem (k : Key) (ks : List Key) : Bool := ks.any fun j => decide (k = j)
def fInT (neg : Bool) : OT → OT → (OT → Prop) → Prop := fun t1 t2 P => ∃ (k : Key) (ks : List Key), t1 = .sh (keyD k) ∧ (t2 = .sh (.tup (ks.map keyD)) ∨ t2.asR = some (ks.map keyD)) ∧ P (.sh (.bl (if neg then !kMem k ks else kMem k ks)))
theorem Rep.key {K : PySem.W.Frag} {G : List Addr} {H : Hp} {k : Key} {v : V} (r : Rep K H G (keyD k) v) : v = kV k := by
  cases k with
  | inl i => cases r; rfl
  | inr x => cases r; rfl
theorem Reps.keys {K : PySem.W.Frag} {G : List Addr} {H : Hp} : ∀ {ks : List Key} {vs : List V}, Reps K H G (ks.map keyD) vs → vs = ks.map kV
  | [], _, r => by cases r; rfl
  | k :: ks, _, r => by
    cases r with
    | cons h t => rw [List.map_cons, h.key, Reps.keys t]
theorem flat_keys (ks : List Key) : (ks.map kV).all flatV = true := by
  induction ks with
  | nil => rfl
  | cons k ks ih => rw [List.map_cons, List.all_cons, ih]; cases k <;> rfl
theorem inV_keys (k : Key) (ks : List Key) : inV (kV k) (ks.map kV) = kMem k ks := by
  induction ks with
  | nil => rfl
  | cons j ks ih =>
    have e1 : inV (kV k) ((j :: ks).map kV) = (eqV (kV j) (kV k) || inV (kV k) (ks.map kV)) := rfl
    have e2 : eqV (kV j) (kV k) = decide (k = j) := by
      cases j <;> cases k
      · rename_i a b
        show (a == b) = _
        by_cases q : a = b
        · subst q; simp
        · have q' : ¬ (Sum.inl b : Key) = Sum.inl a := fun z => q (Sum.inl.inj z).symm
          simp [q, q']
      · rename_i a b
        have q' : ¬ (Sum.inr b : Key) = Sum.inl a := fun z => nomatch z
        rw [decide_eq_false q']; rfl
      · rename_i a b
        have q' : ¬ (Sum.inl b : Key) = Sum.inr a := fun z => nomatch z
        rw [decide_eq_false q']; rfl
      · rename_i a b
        show (a == b) = _
        by_cases q : a = b
        · subst q; simp
        · have q' : ¬ (Sum.inr b : Key) = Sum.inr a := fun z => q (Sum.inr.inj z).symm
          simp [q, q']
    rw [e1, e2, ih]
    rfl
theorem op2_inT {K : PySem.W.Frag} {neg : Bool} : Op2 K (rIn K neg) (fInT neg) where
  mono := fun t1 t2 P P' i ⟨x, y, e1, e2, p⟩ => ⟨x, y, e1, e2, i _ p⟩
  ok := fun G H t1 v1 B1 t2 v2 B2 P Q r1 r2 ⟨k, ks, e1, e2, p⟩ q => by
    subst e1
    have ek : v1 = kV k := by cases r1 with | sh h => exact h.key
    subst ek
    have fin : ∀ p vs, v2 = .ref p → (SqL K H p vs ∨ SqT K H p vs) → Reps K H G (ks.map keyD) vs → rIn K neg (kV k) v2 H Q := fun pp vs e hs rs => by
      subst e
      have ev := rs.keys
      subst ev
      refine ⟨pp, _, rfl, hs, by cases k <;> rfl, flat_keys ks, ?_⟩
      rw [inV_keys]
      exact q _ _ _ _ p (.here (.bl _))
    rcases e2 with e2 | e2
    · subst e2
      obtain ⟨pp, vs, e, hs, rs⟩ := r2.tupAt
      exact fin pp vs e (.inr hs) rs
    · obtain ⟨pp, vs, e, hs, rs⟩ := r2.seqAt e2
      exact fin pp vs e (.inl hs) rs
theorem cInT : CmpOk X .In (rIn X.K false) (fInT false) := ⟨op_in_seq, op2_inT⟩
theorem cNotInT : CmpOk X .NotIn (rIn X.K true) (fInT true) := ⟨op_notIn_seq, op2_inT⟩
theorem XE.cmp {op : CmpOp} {r : R2} {f : OT → OT → (OT → Prop) → Prop} (o : CmpOk X op r f) (ha : XU X a wa) (hb : XU X b wb) (hm : behindInMarks op b = false) : XE X (.Compare a [op] [b] pos) (wBin f wa wb) :=
  .bin o.op ha hb fun pa pb => pe_cmpR o.run pa pb hm
/-- a value that is True or False, as a test -/
def wTst (w : WE) : WT := fun Γ R => w Γ fun t Γ' => ∃ k, t = .sh (.bl k) ∧ R k Γ'
theorem XT.of (h : XE X e w) (hp : PE X e (LE X.K w) → PT X e (tTest (LE X.K w))) : XT X e (wTst w) := by
  refine ⟨ptW (hp h.pe) fun σ H Q => ?_, fun Γ P P' i q => h.mono _ _ _ (fun t Γ1 ⟨k, e, q1⟩ => ⟨k, e, i _ _ q1⟩) q⟩
  rintro ⟨H0, M0, F, Γ, O, st, hw⟩
  refine ⟨H0, M0, F, Γ, O, st, h.mono _ _ _ (fun t Γ1 ⟨k, e, q⟩ v H' Od O' c fr r => ?_) hw⟩
  subst e
  exact ⟨k, r.bl, q H' O' c.base⟩
theorem ptVal {t : TE} (h : PE X e t) (he : ∀ whole, isTrue e X.env whole = (do let v ← whole; standAt e.pos; holding [v] (truthy v))) : PT X e (tTest t) := pt_val h he
theorem XT.cmp {op : CmpOp} {r : R2} {f : OT → OT → (OT → Prop) → Prop} (o : CmpOk X op r f) (ha : XU X a wa) (hb : XU X b wb) (hm : behindInMarks op b = false) : XT X (.Compare a [op] [b] pos) (wTst (wBin f wa wb)) := by
  have he := XE.cmp (pos := pos) o ha hb hm
  refine ⟨ptW (pt_cmpR o.run ha.pe hb.pe hm) fun σ H Q => ?_, fun Γ P P' i q => he.mono _ _ _ (fun t Γ1 ⟨k, e, q1⟩ => ⟨k, e, i _ _ q1⟩) q⟩
  rintro ⟨H0, M0, F, Γ, O, st, hw⟩
  refine ⟨H0, M0, F, Γ, O, st, ha.mono _ _ _ (fun t1 Γ1 q1 v1 H1 F1 B1 O1 c1 r1 => ?_) hw⟩
  refine ⟨H0, M0, F1, Γ1, O1, c1.st, hb.mono _ _ _ (fun t2 Γ2 q2 v2 H2 F2 B2 O2 c2 r2 => ?_) q1⟩
  refine o.op.ok (F2 ++ O2) H2 t1 v1 B1 t2 v2 B2 _ _ (r1.ext c2.ext fun a _ o e => c2.same a o e) r2 q2 fun t v H' Od ⟨k, e, p⟩ n => ?_
  subst e
  obtain ⟨c, fr, rr⟩ := (c1.trans c2).fin n
  exact ⟨k, rr.bl, p _ _ c.base⟩
/-- a chain of two comparisons -/
def wChain (f g : OT → OT → (OT → Prop) → Prop) (wa wb wc : WE) : WE := fun Γ R => wa Γ fun t1 Γ1 => wb Γ1 fun t2 Γ2 => f t1 t2 fun t => ∃ k, t = .sh (.bl k) ∧
  (if k = true then wc Γ2 fun t3 Γ3 => g t2 t3 fun t => R t Γ3 else R (.sh (.bl false)) Γ2)
theorem wChain_mono {f g : OT → OT → (OT → Prop) → Prop} {r r' : R2} {K : PySem.W.Frag} (o : Op2 K r f) (o' : Op2 K r' g) (ha : MonoE wa) (hb : MonoE wb) (hc : MonoE wc) : MonoE (wChain f g wa wb wc) := fun Γ P P' i q =>
  ha _ _ _ (fun t1 Γ1 q1 => hb _ _ _ (fun t2 Γ2 q2 => o.mono _ _ _ _ (fun t ⟨k, e, q3⟩ => ⟨k, e, by
    cases k with
    | true => exact hc _ _ _ (fun t3 Γ3 q4 => o'.mono _ _ _ _ (fun t q5 => i _ _ q5) q4) q3
    | false => exact i _ _ q3⟩) q2) q1) q
theorem chain_ok {op op' : CmpOp} {r r' : R2} {f g : OT → OT → (OT → Prop) → Prop} (o : CmpOk X op r f) (o' : CmpOk X op' r' g) (ha : XU X a wa) (hb : XU X b wb) (hc : XU X c wc) (σ : St) (H : Hp) (Q : VK)
    (h : LE X.K (wChain f g wa wb wc) σ H Q) : tChain r r' (LU X.K wa) (LU X.K wb) (LU X.K wc) σ H Q := by
  obtain ⟨H0, M0, F, Γ, O, st, hw⟩ := h
  refine ⟨H0, M0, F, Γ, O, st, ha.mono _ _ _ (fun t1 Γ1 q1 v1 H1 F1 B1 O1 c1 r1 => ?_) hw⟩
  refine ⟨H0, M0, F1, Γ1, O1, c1.st, hb.mono _ _ _ (fun t2 Γ2 q2 v2 H2 F2 B2 O2 c2 r2 => ?_) q1⟩
  refine o.op.ok (F2 ++ O2) H2 t1 v1 B1 t2 v2 B2 _ _ (r1.ext c2.ext fun a _ o e => c2.same a o e) r2 q2 fun t v H3 Od ⟨k, e, p⟩ n => ?_
  subst e
  obtain ⟨c, fr, rr⟩ := (Chn.refl c2.st).fin n
  refine ⟨k, rr.bl, ?_⟩
  have c3 := (c1.trans c2).trans c
  cases k with
  | false =>
    rw [if_neg Bool.false_ne_true] at p ⊢
    obtain ⟨c4, fr4, rr4⟩ := c3.fin (New.here (K := X.K) (.bl false))
    exact p _ _ _ _ c4 fr4 rr4
  | true =>
    rw [if_pos rfl] at p ⊢
    have r2' := r2.ext c.ext fun a _ o e => c.same a o e
    refine ⟨H0, M0, _, Γ2, O2, c.st, hc.mono _ _ _ (fun t3 Γ3 q3 v3 H4 F4 B4 O4 c4 r4 => ?_) p⟩
    refine o'.op.ok (F4 ++ O4) H4 t2 v2 B2 t3 v3 B4 _ _ (r2'.ext c4.ext fun a _ o e => c4.same a o e) r4 q3 fun t v H' Od p n => ?_
    obtain ⟨c5, fr5, rr5⟩ := (c3.trans c4).fin n
    exact p _ _ _ _ c5 fr5 rr5
theorem XE.chain {op op' : CmpOp} {r r' : R2} {f g : OT → OT → (OT → Prop) → Prop} (o : CmpOk X op r f) (o' : CmpOk X op' r' g) (ha : XU X a wa) (hb : XU X b wb) (hc : XU X c wc) (hm : lastMarks [op, op'] [b, c] = false) :
    XE X (.Compare a [op, op'] [b, c] pos) (wChain f g wa wb wc) := ⟨peW (pe_chain o.run o'.run ha.pe hb.pe hc.pe hm) (chain_ok o o' ha hb hc), wChain_mono o.op o'.op ha.mono hb.mono hc.mono⟩
theorem XT.chain {op op' : CmpOp} {r r' : R2} {f g : OT → OT → (OT → Prop) → Prop} (o : CmpOk X op r f) (o' : CmpOk X op' r' g) (ha : XU X a wa) (hb : XU X b wb) (hc : XU X c wc) (hm : lastMarks [op, op'] [b, c] = false) :
    XT X (.Compare a [op, op'] [b, c] pos) (wTst (wChain f g wa wb wc)) := by
  have hM : MonoE (wChain f g wa wb wc) := wChain_mono o.op o'.op ha.mono hb.mono hc.mono
  refine ⟨ptW (pt_chain o.run o'.run ha.pe hb.pe hc.pe hm) fun σ H Q => ?_, fun Γ P P' i q => hM _ _ _ (fun t Γ1 ⟨k, e, q1⟩ => ⟨k, e, i _ _ q1⟩) q⟩
  rintro ⟨H0, M0, F, Γ, O, st, hw⟩
  refine chain_ok o o' ha hb hc σ H _ ⟨H0, M0, F, Γ, O, st, hM _ _ _ (fun t Γ1 ⟨k, e, q1⟩ v H' Od O' c fr r => ?_) hw⟩
  subst e
  exact ⟨k, r.bl, q1 _ _ c.base⟩
end
end EV

set_option maxHeartbeats 4000000
/-! Ev, part D0: dicts asked by keys that may stand in the written part, by values. -/
namespace EV
open PySem PySem.Spec PyProof.Rows L2
def DAsk (K : PySem.W.Frag) (H : Hp) (a : Addr) (y : V) (r : Option V) : Prop :=
  DGet H a y r ∨ ∃ (kvs : List (List Key × V)) (k : List Key) (b : Addr), Rd H a (.dT kvs) ∧ y = .ref b ∧ StaticT K b (k.map kV) ∧ r = valV kvs k
section
variable {X : Cx} {pins : List (Addr × Obj)} {σ : L2.St} {H : Hp} {s : Shared} {a b : Addr} {y v d : V} {u r : Value} {o : Option V} {A : Around} {E : Value → Shared → Prop}
theorem key_static {ks : List Key} (I : Inv X pins σ H s) (e : StaticT X.K b (ks.map kV)) : (tupleKind (mixKind X.prog X.w)).is s.heap ks b := by
  obtain ⟨its, rv, ⟨ob, h1, h2, n, h3⟩, _⟩ := I.tuple (.inr e)
  exact ⟨ob, its.toArray, n, h1, h2, h3, by simpa using items_are rv⟩
theorem ask_item {Q : Value → Shared → Prop} (hu : A.units + 1 < cLine) (I : Inv X pins σ H s) (g : DAsk X.K H a y (some v)) (ry : RelV y u) (h : ∀ w' s', Inv X pins σ H s' → RelV v w' → Q w' s') : wpAny (model X.prog X.w) A (getItem (.ref a) u) Q E s := by
  rcases g with g | ⟨kvs, k, b, e, ey, eb, l⟩
  · exact d_getItem hu I g ry h
  · subst ey
    obtain rfl : u = Value.ref b := ry
    obtain ⟨_, _, xs, rel, dd⟩ := dt_rd I.hok e
    have rr := rel.val k
    rw [← l] at rr
    obtain ⟨w', hw, rw'⟩ := rr.some_of
    obtain ⟨p, hp, hp2⟩ := Option.map_eq_some_iff.mp hw
    refine wpAny_getItem_heap (tupleKind_room_in1 hu) (key_static I eb) dd hp ?_
    rw [hp2]
    exact h _ _ (I.tok _) rw'
theorem ask_in {Q : Value → Shared → Prop} (hu : A.units + 1 < cLine) (I : Inv X pins σ H s) (g : DAsk X.K H a y o) (ry : RelV y u) (h : ∀ s', Inv X pins σ H s' → Q (.bool o.isSome) s') : wpAny (model X.prog X.w) A (compareOp .In u (.ref a)) Q E s := by
  rcases g with g | ⟨kvs, k, b, e, ey, eb, l⟩
  · exact d_in hu I g ry h
  · subst ey
    obtain rfl : u = Value.ref b := ry
    obtain ⟨_, hd, xs, rel, dd⟩ := dt_rd I.hok e
    have q := (rel.val k).isSome_eq
    rw [Option.isSome_map, ← l] at q
    refine wpAny_in_heap (tupleKind_room_in1 hu) (key_static I eb) hd dd ?_
    rw [← q]
    exact h _ (I.tok _)
theorem ask_notIn {Q : Value → Shared → Prop} (hu : A.units + 1 < cLine) (I : Inv X pins σ H s) (g : DAsk X.K H a y o) (ry : RelV y u) (h : ∀ s', Inv X pins σ H s' → Q (.bool (!o.isSome)) s') : wpAny (model X.prog X.w) A (compareOp .NotIn u (.ref a)) Q E s := by
  rcases g with g | ⟨kvs, k, b, e, ey, eb, l⟩
  · exact d_notIn hu I g ry h
  · subst ey
    obtain rfl : u = Value.ref b := ry
    obtain ⟨_, hd, xs, rel, dd⟩ := dt_rd I.hok e
    have q := (rel.val k).isSome_eq
    rw [Option.isSome_map, ← l] at q
    refine wpAny_notIn_heap (tupleKind_room_in1 hu) (key_static I eb) hd dd ?_
    rw [← q]
    exact h _ (I.tok _)
theorem ask_get2 {Q : Value → Shared → Prop} (hu : A.units + 1 < cLine) (I : Inv X pins σ H s) (g : DAsk X.K H a y o) (ry : RelV y u) (rd : RelV d r) (h : ∀ w' s', Inv X pins σ H s' → RelV (o.getD d) w' → Q w' s') :
    wpAny (model X.prog X.w) A (call (.builtin "dict.get") [.ref a, u, r]) Q E s := by
  rcases g with g | ⟨kvs, k, b, e, ey, eb, l⟩
  · exact d_get2 hu I g ry rd h
  · subst ey
    obtain rfl : u = Value.ref b := ry
    obtain ⟨_, hd, xs, rel, dd⟩ := dt_rd I.hok e
    have rr := rel.val k
    rw [← l] at rr
    exact call_meetsIn PySem.F.slot_dict_get dd.typeIs PySem.F.entry_dict_get (PySem.F.args_dict_get_3 _ _ _) (meetsH_dict_get_default (tupleKind (mixKind X.prog X.w)) a b hd r) ⟨tupleKind_room_in1 hu, k, xs, key_static I eb, dd, h _ _ (I.tok _) (rr.getD rd)⟩
theorem ask_dict (I : Inv X pins σ H s) (g : DAsk X.K H a y o) : s.TypeIs (.ref a) "dict" := by
  rcases g with g | ⟨kvs, k, b, e, _, _, _⟩
  · exact dict_typeIs I g
  · exact (isD_at I (.inr ⟨kvs, e⟩)).1
end
section
variable {X : Cx}
def rAskIx (K : PySem.W.Frag) : R2 := fun x y H Q => ∃ a v, x = .ref a ∧ DAsk K H a y (some v) ∧ Q v H
theorem ix_ask (hu : X.A.units + 1 < cLine) : IxR X (rAskIx X.K) := by
  intro value slice pins s σ H x y v u Q I rx ry h hs
  obtain ⟨a, z, rfl, g, q⟩ := h
  obtain rfl : v = Value.ref a := rx
  have hT := ask_dict I g
  have got : wpAny (model X.prog X.w) X.A (subscripted slice false (.ref a) u) (fun r s₃ => wpAny (model X.prog X.w) X.A (letTemporaryGo value (.ref a) r >>= fun _ => pure r) (EP X pins σ Q) X.xe s₃) X.xe s := by
    rw [hs]
    refine wpAny_operating (ask_item hu I g ry fun w' s' I' r' => ?_)
    exact wpAny_bind (wpAny_letTemporaryGo (wpAny_pure ⟨z, H, I', r', q⟩))
  unfold subscriptTail
  refine wpAny_bind ?_
  rw [getitemInPython_of_ne hT.not_modules]
  refine wpAny_bind (wpAny_specialOf hT PySem.F.slot_dict_getitem.lookup ?_)
  first
    | exact wpAny_pure (wpAny_bind got)
    | exact wpAny_bind got
    | exact got
def rAskIn (K : PySem.W.Frag) (neg : Bool) : R2 := fun x y H Q => ∃ a o, y = .ref a ∧ DAsk K H a x o ∧ Q (.bl (if neg then !o.isSome else o.isSome)) H
theorem op_askIn (hu : X.A.units + 1 < cLine) : OpR X (compareOp .In) (rAskIn X.K false) := by
  intro pins s σ H x y v u Q I rx ry h
  obtain ⟨a, o, rfl, g, q⟩ := h
  obtain rfl : u = Value.ref a := ry
  exact ask_in hu I g rx fun s' I' => ⟨.bl o.isSome, H, I', rfl, q⟩
theorem op_askNotIn (hu : X.A.units + 1 < cLine) : OpR X (compareOp .NotIn) (rAskIn X.K true) := by
  intro pins s σ H x y v u Q I rx ry h
  obtain ⟨a, o, rfl, g, q⟩ := h
  obtain rfl : u = Value.ref a := ry
  exact ask_notIn hu I g rx fun s' I' => ⟨.bl (!o.isSome), H, I', rfl, q⟩
def tAsk2 (K : PySem.W.Frag) (td ty tx : TE) : TE := fun σ H Q => td σ H fun x H1 => ∃ a, x = .ref a ∧ IsD H1 a ∧ ty σ H1 fun y H2 => tx σ H2 fun z H3 => ∃ o, DAsk K H3 a y o ∧ Q (o.getD z) H3
theorem pe_ask2 {o e f : Expr} {apos cpos : Pos} {td ty tx : TE} (hu : X.A.units + 1 < cLine) (ho : PE X o td) (he : PE X e ty) (hf : PE X f tx) (m : M2 X o "get" apos e f cpos) : PE X (.Call (.Attribute o "get" apos) [e, f] [] cpos) (tAsk2 X.K td ty tx) := by
  refine ⟨fun pins s σ H Q I h => ?_⟩
  refine wpAny_Call_method m.base m.few m.line PySem.F.plainAttrs_dict PySem.F.slot_dict_get PySem.F.type_dict_get (thn (ho.run pins s σ H _ I h) fun u s1 q => ?_)
  obtain ⟨x, H1, I1, rx, a, rfl, d, q1⟩ := q
  obtain rfl : u = Value.ref a := rx
  obtain ⟨ty1, ty2, _⟩ := isD_at I1 d
  refine ⟨ty1, ty2, ?_⟩
  rw [m.trees]
  refine Calls.callWith_builtin rfl (Calls.evalArgs_plain (Calls.spliced_cons (thn (he.run pins s1 σ H1 _ I1 q1) fun kv s2 q2 => ?_)))
  obtain ⟨y, H2, I2, ry, q2⟩ := q2
  refine Calls.spliced_cons (thn (hf.run pins s2 σ H2 _ I2 q2) fun dv s3 q3 => Calls.spliced_nil ?_)
  obtain ⟨z, H3, I3, rz, ov, g, q3⟩ := q3
  exact ask_get2 hu I3 g ry rz fun w' s4 I4 rw' => ⟨_, H3, I4, rw', q3⟩
end
end EV

set_option maxHeartbeats 4000000
/-! Ev, part D: tests, subscripts, slices, fields, built-in functions. -/
namespace EV
open PySem PySem.Spec L2

section
variable {X : Cx} {a b c e : Expr} {rest : List Expr} {wa wb wc w : WE} {ta tb tc : WT} {pos : Pos}
/-! ### and, or, not -/
structure XW (X : Cx) (e : Expr) (w : WT) : Prop where
  pw : PW X e (LT X.K w)
  mono : MonoT w
def wAnd (t u : WT) : WT := fun Γ R => t Γ fun k Γ1 => if k = true then u Γ1 R else R false Γ1
def wOr (t u : WT) : WT := fun Γ R => t Γ fun k Γ1 => if k = true then R true Γ1 else u Γ1 R
theorem wAnd_mono (h : MonoT ta) (h' : MonoT tb) : MonoT (wAnd ta tb) := fun Γ P P' i q => h _ _ _ (fun k Γ1 q1 => by
  cases k with
  | true => exact h' _ _ _ i q1
  | false => exact i _ _ q1) q
theorem wOr_mono (h : MonoT ta) (h' : MonoT tb) : MonoT (wOr ta tb) := fun Γ P P' i q => h _ _ _ (fun k Γ1 q1 => by
  cases k with
  | false => exact h' _ _ _ i q1
  | true => exact i _ _ q1) q
theorem XW.xt (h : XW X e w') : XT X e w' := ⟨h.pw.pt, h.mono⟩
theorem XW.and1 (h : XT X a ta) : XW X (.BoolOp .And [a] pos) ta := ⟨pw_and1 h.pt, h.mono⟩
theorem XW.or1 (h : XT X a ta) : XW X (.BoolOp .Or [a] pos) ta := ⟨pw_or1 h.pt, h.mono⟩
theorem pwW {t t' : TT} (h : PW X e t) (i : ∀ σ H Q, t' σ H Q → t σ H Q) : PW X e t' := ⟨fun wh pins s σ H Q I q => h.run wh pins s σ H Q I (i σ H Q q)⟩
theorem XW.and (h : XT X a ta) (h' : XW X (.BoolOp .And (b :: rest) pos) tb) : XW X (.BoolOp .And (a :: b :: rest) pos) (wAnd ta tb) := by
  refine ⟨pwW (pw_and h.pt h'.pw) fun σ H Q => ?_, wAnd_mono h.mono h'.mono⟩
  rintro ⟨H0, M0, F, Γ, O, st, hw⟩
  refine ⟨H0, M0, F, Γ, O, st, h.mono _ _ _ (fun k Γ1 q1 H1 O1 c1 => ?_) hw⟩
  cases k with
  | true => exact ⟨H0, M0, F, Γ1, O1, c1.st, h'.mono _ _ _ (fun k2 Γ2 q2 H2 O2 c2 => q2 _ _ (c1.trans c2)) q1⟩
  | false => exact q1 _ _ c1
theorem XW.or (h : XT X a ta) (h' : XW X (.BoolOp .Or (b :: rest) pos) tb) : XW X (.BoolOp .Or (a :: b :: rest) pos) (wOr ta tb) := by
  refine ⟨pwW (pw_or h.pt h'.pw) fun σ H Q => ?_, wOr_mono h.mono h'.mono⟩
  rintro ⟨H0, M0, F, Γ, O, st, hw⟩
  refine ⟨H0, M0, F, Γ, O, st, h.mono _ _ _ (fun k Γ1 q1 H1 O1 c1 => ?_) hw⟩
  cases k with
  | false => exact ⟨H0, M0, F, Γ1, O1, c1.st, h'.mono _ _ _ (fun k2 Γ2 q2 H2 O2 c2 => q2 _ _ (c1.trans c2)) q1⟩
  | true => exact q1 _ _ c1
def wNot (t : WT) : WT := fun Γ R => t Γ fun k Γ1 => R (!k) Γ1
theorem XT.not (h : XT X a ta) : XT X (.UnaryOp .Not a pos) (wNot ta) := by
  refine ⟨ptW (pt_not h.pt) fun σ H Q => ?_, fun Γ P P' i q => h.mono _ _ _ (fun k Γ1 q1 => i _ _ q1) q⟩
  rintro ⟨H0, M0, F, Γ, O, st, hw⟩
  exact ⟨H0, M0, F, Γ, O, st, hw⟩
/-! as values -/
def wAndV (wa wb : WE) : WE := fun Γ R => wa Γ fun t Γ1 => ∃ k, t = .sh (.bl k) ∧ if k = true then wb Γ1 R else R (.sh (.bl false)) Γ1
def wOrV (wa wb : WE) : WE := fun Γ R => wa Γ fun t Γ1 => ∃ k, t = .sh (.bl k) ∧ if k = true then R (.sh (.bl true)) Γ1 else wb Γ1 R
def wNotV (wa : WE) : WE := fun Γ R => wa Γ fun t Γ1 => ∃ k, t = .sh (.bl k) ∧ R (.sh (.bl (!k))) Γ1
theorem XE.one {op : BoolOp} (h : XE X a wa) : XE X (.BoolOp op [a] pos) wa := ⟨pe_one h.pe, h.mono⟩
theorem XE.and (h : XE X a wa) (h' : XE X (.BoolOp .And (b :: rest) pos) wb) : XE X (.BoolOp .And (a :: b :: rest) pos) (wAndV wa wb) := by
  refine ⟨peW (pe_and h.pe h'.pe) fun σ H Q => ?_, fun Γ P P' i q => h.mono _ _ _ (fun t Γ1 ⟨k, e, q1⟩ => ⟨k, e, by
    cases k with
    | true => exact h'.mono _ _ _ i q1
    | false => exact i _ _ q1⟩) q⟩
  rintro ⟨H0, M0, F, Γ, O, st, hw⟩
  refine ⟨H0, M0, F, Γ, O, st, h.mono _ _ _ (fun t Γ1 ⟨k, e, q1⟩ v H1 Od O1 c1 fr r1 => ?_) hw⟩
  subst e
  refine ⟨k, r1.bl, ?_⟩
  have c1' := c1.base
  cases k with
  | true =>
    refine ⟨H0, M0, F, Γ1, O1, c1'.st, h'.mono _ _ _ (fun t2 Γ2 q2 v2 H2 Od2 O2 c2 fr2 r2 => ?_) q1⟩
    refine q2 _ _ _ _ (c1'.trans c2) (fun x m => ?_) r2
    rcases fr2 x m with y | y
    · exact .inl (c1'.sub x y)
    · cases eo : H x with
      | none => exact .inr rfl
      | some o => rw [c1'.same x o eo] at y; cases y
  | false =>
    obtain ⟨c4, fr4, rr4⟩ := c1'.fin (New.here (K := X.K) (.bl false))
    exact q1 _ _ _ _ c4 fr4 rr4
theorem XE.or (h : XE X a wa) (h' : XE X (.BoolOp .Or (b :: rest) pos) wb) : XE X (.BoolOp .Or (a :: b :: rest) pos) (wOrV wa wb) := by
  refine ⟨peW (pe_or h.pe h'.pe) fun σ H Q => ?_, fun Γ P P' i q => h.mono _ _ _ (fun t Γ1 ⟨k, e, q1⟩ => ⟨k, e, by
    cases k with
    | false => exact h'.mono _ _ _ i q1
    | true => exact i _ _ q1⟩) q⟩
  rintro ⟨H0, M0, F, Γ, O, st, hw⟩
  refine ⟨H0, M0, F, Γ, O, st, h.mono _ _ _ (fun t Γ1 ⟨k, e, q1⟩ v H1 Od O1 c1 fr r1 => ?_) hw⟩
  subst e
  refine ⟨k, r1.bl, ?_⟩
  have c1' := c1.base
  cases k with
  | false =>
    refine ⟨H0, M0, F, Γ1, O1, c1'.st, h'.mono _ _ _ (fun t2 Γ2 q2 v2 H2 Od2 O2 c2 fr2 r2 => ?_) q1⟩
    refine q2 _ _ _ _ (c1'.trans c2) (fun x m => ?_) r2
    rcases fr2 x m with y | y
    · exact .inl (c1'.sub x y)
    · cases eo : H x with
      | none => exact .inr rfl
      | some o => rw [c1'.same x o eo] at y; cases y
  | true =>
    obtain ⟨c4, fr4, rr4⟩ := c1'.fin (New.here (K := X.K) (.bl true))
    exact q1 _ _ _ _ c4 fr4 rr4
theorem XE.not (h : XE X a wa) : XE X (.UnaryOp .Not a pos) (wNotV wa) := by
  refine ⟨peW (pe_not h.pe) fun σ H Q => ?_, fun Γ P P' i q => h.mono _ _ _ (fun t Γ1 ⟨k, e, q1⟩ => ⟨k, e, i _ _ q1⟩) q⟩
  rintro ⟨H0, M0, F, Γ, O, st, hw⟩
  refine ⟨H0, M0, F, Γ, O, st, h.mono _ _ _ (fun t Γ1 ⟨k, e, q1⟩ v H1 Od O1 c1 fr r1 => ?_) hw⟩
  subst e
  refine ⟨k, r1.bl, ?_⟩
  obtain ⟨c4, fr4, rr4⟩ := c1.base.fin (New.here (K := X.K) (.bl !k))
  exact q1 _ _ _ _ c4 fr4 rr4
/-- a if t else b -/
def wIf (t : WT) (wa wb : WE) : WE := fun Γ R => t Γ fun k Γ1 => if k = true then wa Γ1 R else wb Γ1 R
theorem XE.ifx (hc : XT X c tc) (h : XE X a wa) (h' : XE X b wb) : XE X (.IfExp c a b pos) (wIf tc wa wb) := by
  refine ⟨peW (pe_ifExp hc.pt h.pe h'.pe) fun σ H Q => ?_, fun Γ P P' i q => hc.mono _ _ _ (fun k Γ1 q1 => by
    cases k with
    | true => exact h.mono _ _ _ i q1
    | false => exact h'.mono _ _ _ i q1) q⟩
  rintro ⟨H0, M0, F, Γ, O, st, hw⟩
  refine ⟨H0, M0, F, Γ, O, st, hc.mono _ _ _ (fun k Γ1 q1 H1 O1 c1 => ?_) hw⟩
  have back : ∀ {w : WE}, MonoE w → w Γ1 (fun t Γ' => ∀ v H' Od O', Chn X.K H0 M0 F σ H O Γ' H' (F ++ Od) O' → (∀ a ∈ Od, a ∈ O ∨ H a = none) → RepO X.K H' ((F ++ Od) ++ O') t v Od → Q v H') → LE X.K w σ H1 Q := fun {w} hm q => by
    refine ⟨H0, M0, F, Γ1, O1, c1.st, hm _ _ _ (fun t2 Γ2 q2 v2 H2 Od2 O2 c2 fr2 r2 => ?_) q⟩
    refine q2 _ _ _ _ (c1.trans c2) (fun x m => ?_) r2
    rcases fr2 x m with y | y
    · exact .inl (c1.sub x y)
    · cases eo : H x with
      | none => exact .inr rfl
      | some o => rw [c1.same x o eo] at y; cases y
  cases k with
  | true => exact back h.mono q1
  | false => exact back h'.mono q1
/-- a value's truth -/
def OT.tru : OT → Option Bool
  | .sh .non => some false
  | .sh (.bl b) => some b
  | .sh (.int i) => some (i != 0)
  | .sh (.tup xs) => some (!xs.isEmpty)
  | .sh (.lst xs) => some (!xs.isEmpty)
  | .lst xs => some (!xs.isEmpty)
  | _ => none
def wTru (w : WE) : WT := fun Γ R => w Γ fun t Γ1 => ∃ k, t.tru = some k ∧ R k Γ1
theorem Reps.empty {K : PySem.W.Frag} {H : Hp} {G : List Addr} {ds : List D} {vs : List V} (r : Reps K H G ds vs) : ds.isEmpty = vs.isEmpty := by cases r <;> rfl
theorem RepO.tru {K : PySem.W.Frag} {H : Hp} {G : List Addr} {t : OT} {v : V} {B : List Addr} {k : Bool} (r : RepO K H G t v B) (e : t.tru = some k) : TruV K v H k := by
  cases r with
  | sh h =>
    cases h with
    | non => cases e; rfl
    | bl b => cases e; rfl
    | int i => cases e; rfl
    | tup h1 h2 => cases e; exact .inr (.inl ⟨_, .inl (.inl h1), by rw [h2.empty]⟩)
    | lst h1 h2 h3 => cases e; exact .inl ⟨_, .inl (.inl h1), by rw [h3.empty]⟩
    | _ => cases e
  | lst h q => cases e; exact .inl ⟨_, .inl (.inl h), by rw [q.empty]⟩
  | _ => cases e
theorem XT.truth (h : XU X a wa) (he : ∀ whole, isTrue a X.env whole = (do let v ← whole; standAt a.pos; holding [v] (truthy v))) : XT X a (wTru wa) := by
  refine ⟨ptW (pt_truth h.pe he) fun σ H Q => ?_, fun Γ P P' i q => h.mono _ _ _ (fun t Γ1 ⟨k, e, q1⟩ => ⟨k, e, i _ _ q1⟩) q⟩
  rintro ⟨H0, M0, F, Γ, O, st, hw⟩
  exact ⟨H0, M0, F, Γ, O, st, h.mono _ _ _ (fun t Γ1 ⟨k, e, q1⟩ v H1 F1 B1 O1 c1 r1 => ⟨k, r1.tru e, q1 _ _ c1.base⟩) hw⟩

/-! ### whatever stands there: the operators by their operands -/
def fAddA (t1 t2 : OT) (P : OT → Prop) : Prop := fAdd t1 t2 P ∨ fAddS t1 t2 P ∨ fAddT t1 t2 P ∨ fAddL t1 t2 P
theorem XE.addA (ha : XU X a wa) (hb : XU X b wb) : XE X (.BinOp a .Add b pos) (wBin fAddA wa wb) :=
  .bin (.or (.ints0 fun _ _ _ _ => .int _) (.or op2_addS (.or op2_addT op2_addL))) ha hb (pe_op (op_add.or (op_add_str.or (op_catA.or op_cat))))
def fMulA (t1 t2 : OT) (P : OT → Prop) : Prop := fMul t1 t2 P ∨ fRep t1 t2 P
theorem XE.mulA (ha : XU X a wa) (hb : XU X b wb) : XE X (.BinOp a .Mult b pos) (wBin fMulA wa wb) := .bin (.or (.ints fun _ _ _ _ => .int _) op2_rep) ha hb (pe_op (op_mul.or op_rep))
def fGeA (t1 t2 : OT) (P : OT → Prop) : Prop := fBl (fun i j => decide (j ≤ i)) t1 t2 P ∨ strsD (fun i j => !decide (i.cps.toList < j.cps.toList)) t1 t2 P
theorem CmpOk.or {op : CmpOp} {r r' : R2} {f f' : OT → OT → (OT → Prop) → Prop} (o : CmpOk X op r f) (o' : CmpOk X op r' f') : CmpOk X op (fun x y H Q => r x y H Q ∨ r' x y H Q) (fun t1 t2 P => f t1 t2 P ∨ f' t1 t2 P) := ⟨o.run.or o'.run, o.op.or o'.op⟩
def rGeA : R2 := fun x y H Q => (rI0 fun i j => .bl (decide (j ≤ i))) x y H Q ∨ rGeS x y H Q
theorem cGeA : CmpOk X .GtE rGeA fGeA := cGe.or cGeS
/-! dicts asked -/
def OT.asK : OT → Option (List (Key × D))
  | .sh (.dK k) => some k
  | .dK k => some k
  | _ => none
def OT.asT : OT → Option (List (List Key × D))
  | .sh (.dT k) => some k
  | .dT k => some k
  | _ => none
def lookK {κ α : Type} [DecidableEq κ] (kvs : List (κ × α)) (k : κ) : Option α := (kvs.find? fun kv => decide (kv.1 = k)).map (·.2)
theorem lookK_rep {κ : Type} [DecidableEq κ] {K : PySem.W.Frag} {H : Hp} {G : List Addr} (k : κ) : ∀ {ds : List (κ × D)} {kvs : List (κ × V)}, ds.map (·.1) = kvs.map (·.1) → Reps K H G (ds.map (·.2)) (kvs.map (·.2)) →
    (lookK ds k = none ∧ valV kvs k = none) ∨ ∃ d v, lookK ds k = some d ∧ valV kvs k = some v ∧ Rep K H G d v
  | [], [], _, _ => .inl ⟨rfl, rfl⟩
  | [], _ :: _, e, _ => by simp at e
  | _ :: _, [], e, _ => by simp at e
  | (k1, d) :: ds, (k2, v) :: kvs, e, r => by
    simp only [List.map_cons, List.cons.injEq] at e
    obtain ⟨e1, e2⟩ := e
    simp only [List.map_cons] at r
    cases r with
    | cons h t =>
      have e1' : k1 = k2 := e1
      subst e1'
      by_cases q : k1 = k
      · exact .inr ⟨d, v, by simp [lookK, List.find?_cons, q], by simp [valV, List.find?_cons, q], h⟩
      · have a1 : lookK ((k1, d) :: ds) k = lookK ds k := by simp [lookK, List.find?_cons, q]
        have a2 : valV ((k1, v) :: kvs) k = valV kvs k := by simp [valV, List.find?_cons, q]
        rw [a1, a2]
        exact lookK_rep k e2 t
theorem RepO.dKAt {K : PySem.W.Frag} {H : Hp} {G : List Addr} {t : OT} {v : V} {B : List Addr} {ds : List (Key × D)} (r : RepO K H G t v B) (e : t.asK = some ds) :
    ∃ p kvs, v = .ref p ∧ Rd H p (.dK kvs) ∧ ds.map (·.1) = kvs.map (·.1) ∧ Reps K H G (ds.map (·.2)) (kvs.map (·.2)) := by
  cases r with
  | sh h =>
    cases h with
    | dK h1 h2 h3 h4 => cases e; exact ⟨_, _, rfl, h1, h3, h4⟩
    | _ => cases e
  | dK h e2 q => simp [OT.asK] at e; subst e; exact ⟨_, _, rfl, .inl h, e2, q⟩
  | _ => simp [OT.asK] at e
theorem RepO.dTAt {K : PySem.W.Frag} {H : Hp} {G : List Addr} {t : OT} {v : V} {B : List Addr} {ds : List (List Key × D)} (r : RepO K H G t v B) (e : t.asT = some ds) :
    ∃ p kvs, v = .ref p ∧ Rd H p (.dT kvs) ∧ ds.map (·.1) = kvs.map (·.1) ∧ Reps K H G (ds.map (·.2)) (kvs.map (·.2)) := by
  cases r with
  | sh h =>
    cases h with
    | dT h1 h2 h3 h4 => cases e; exact ⟨_, _, rfl, h1, h3, h4⟩
    | _ => cases e
  | dT h e2 q => simp [OT.asT] at e; subst e; exact ⟨_, _, rfl, .inl h, e2, q⟩
  | _ => simp [OT.asT] at e
/-- what a dict holds at a key -/
def dGet (t tk : OT) (r : Option D) : Prop :=
  (∃ (ds : List (Key × D)) (k : Key), t.asK = some ds ∧ tk = .sh (keyD k) ∧ r = lookK ds k) ∨ ∃ (ds : List (List Key × D)) (ks : List Key), t.asT = some ds ∧ (tk = .sh (.tup (ks.map keyD)) ∨ tk = .sh (.stc (ks.map keyD))) ∧ r = lookK ds ks
theorem dGet_ask {K : PySem.W.Frag} {H : Hp} {G : List Addr} {t tk : OT} {v vk : V} {B Bk : List Addr} {r : Option D} (h : RepO K H G t v B) (hk : RepO K H G tk vk Bk) (g : dGet t tk r) :
    ∃ a, v = .ref a ∧ IsD H a ∧ ((r = none ∧ DAsk K H a vk none) ∨ ∃ d x, r = some d ∧ DAsk K H a vk (some x) ∧ Rep K H G d x) := by
  rcases g with ⟨ds, k, e1, e2, e3⟩ | ⟨ds, ks, e1, e2, e3⟩
  · obtain ⟨p, kvs, rfl, hp, ek, rs⟩ := h.dKAt e1
    subst e2
    have ev : vk = kV k := by cases hk with | sh z => exact z.key
    subst ev
    refine ⟨p, rfl, .inl ⟨kvs, hp⟩, ?_⟩
    rcases lookK_rep k ek rs with ⟨q1, q2⟩ | ⟨d, x, q1, q2, q3⟩
    · exact .inl ⟨e3.trans q1, .inl (.inl ⟨kvs, k, hp, rfl, q2.symm⟩)⟩
    · exact .inr ⟨d, x, e3.trans q1, .inl (.inl ⟨kvs, k, hp, rfl, q2.symm⟩), q3⟩
  · obtain ⟨p, kvs, rfl, hp, ek, rs⟩ := h.dTAt e1
    refine ⟨p, rfl, .inr ⟨kvs, hp⟩, ?_⟩
    have fin : ∀ o, o = valV kvs ks → DAsk K H p vk o := fun o eo => by
      rcases e2 with e2 | e2
      · subst e2
        cases hk with
        | sh z =>
          cases z with
          | tup h1 q => exact .inl (.inr ⟨kvs, ks, _, hp, rfl, by rw [h1, q.keys], eo⟩)
      · subst e2
        cases hk with
        | sh z =>
          cases z with
          | tupK h1 q => exact .inr ⟨kvs, ks, _, hp, rfl, by rw [← q.keys]; exact h1, eo⟩
    rcases lookK_rep ks ek rs with ⟨q1, q2⟩ | ⟨d, x, q1, q2, q3⟩
    · exact .inl ⟨e3.trans q1, fin _ q2.symm⟩
    · exact .inr ⟨d, x, e3.trans q1, fin _ q2.symm, q3⟩
/-! ### subscripts -/
def fIxT (t1 t2 : OT) (P : OT → Prop) : Prop := ∃ xs i d, t1 = .sh (.tup xs) ∧ t2 = .sh (.int i) ∧ atI xs i = some d ∧ P (.sh d)
def fIxL (t1 t2 : OT) (P : OT → Prop) : Prop := ∃ xs i d, t1.asR = some xs ∧ t2 = .sh (.int i) ∧ atI xs i = some d ∧ P (.sh d)
def fIxS (t1 t2 : OT) (P : OT → Prop) : Prop := ∃ z i c, t1 = .sh (.str z) ∧ t2 = .sh (.int i) ∧ z.length ≤ sizeLine ∧ atI z.cps.toList i = some c ∧ P (.sh (.str ⟨#[c]⟩))
def fIxD (t1 t2 : OT) (P : OT → Prop) : Prop := ∃ d, dGet t1 t2 (some d) ∧ P (.sh d)
theorem ixN_lt {n : Nat} {i : Int} {j : Nat} (h : ixN n i = some j) : j < n := (ixN_seq h).2.1
theorem Reps.atI {K : PySem.W.Frag} {H : Hp} {G : List Addr} {ds : List D} {vs : List V} {i : Int} {d : D} (r : Reps K H G ds vs) (h : atI ds i = some d) : ∃ v, L2.atI vs i = some v ∧ Rep K H G d v := by
  unfold L2.atI at h ⊢
  rw [r.length] at h
  cases e : ixN vs.length i with
  | none => rw [e] at h; cases h
  | some j =>
    rw [e] at h
    exact r.get h
theorem op2_ixT {K : PySem.W.Frag} : Op2 K (rIxT K) fIxT where
  mono := fun t1 t2 P P' i ⟨x, y, d, e1, e2, e3, p⟩ => ⟨x, y, d, e1, e2, e3, i _ p⟩
  ok := fun G H t1 v1 B1 t2 v2 B2 P Q r1 r2 ⟨xs, i, d, e1, e2, e3, p⟩ q => by
    subst e1 e2
    obtain ⟨pp, vs, rfl, h1, q1⟩ := r1.tupAt
    obtain ⟨v, ev, rv⟩ := q1.atI e3
    exact ⟨pp, vs, i, v, rfl, r2.int, h1, ev, q _ _ _ _ p (.here rv)⟩
theorem op2_ixL {K : PySem.W.Frag} : Op2 K (rIxL K) fIxL where
  mono := fun t1 t2 P P' i ⟨x, y, d, e1, e2, e3, p⟩ => ⟨x, y, d, e1, e2, e3, i _ p⟩
  ok := fun G H t1 v1 B1 t2 v2 B2 P Q r1 r2 ⟨xs, i, d, e1, e2, e3, p⟩ q => by
    subst e2
    obtain ⟨pp, vs, rfl, h1, q1⟩ := r1.seqAt e1
    obtain ⟨v, ev, rv⟩ := q1.atI e3
    exact ⟨pp, vs, i, v, rfl, r2.int, h1, ev, q _ _ _ _ p (.here rv)⟩
theorem op2_ixS {K : PySem.W.Frag} : Op2 K rIxS fIxS where
  mono := fun t1 t2 P P' i ⟨x, y, d, e1, e2, e3, e4, p⟩ => ⟨x, y, d, e1, e2, e3, e4, i _ p⟩
  ok := fun G H t1 v1 B1 t2 v2 B2 P Q r1 r2 ⟨z, i, c, e1, e2, e3, e4, p⟩ q => by
    subst e1 e2
    exact ⟨z, i, c, r1.str, r2.int, e3, e4, q _ _ _ _ p (.here (.str _))⟩
theorem op2_ixD {K : PySem.W.Frag} : Op2 K (rAskIx K) fIxD where
  mono := fun t1 t2 P P' i ⟨d, g, p⟩ => ⟨d, g, i _ p⟩
  ok := fun G H t1 v1 B1 t2 v2 B2 P Q r1 r2 ⟨d, g, p⟩ q => by
    obtain ⟨a, rfl, _, z⟩ := dGet_ask r1 r2 g
    rcases z with ⟨z, _⟩ | ⟨d', x, z, ga, rx⟩
    · cases z
    · cases z
      exact ⟨a, x, rfl, ga, q _ _ _ _ p (.here rx)⟩
def fIxA (t1 t2 : OT) (P : OT → Prop) : Prop := fIxT t1 t2 P ∨ fIxL t1 t2 P ∨ fIxS t1 t2 P ∨ fIxD t1 t2 P
theorem XE.ix (hu : X.A.units + 1 < cLine) (ha : XU X a wa) (hb : XU X b wb) (hs : PlainIx b) : XE X (.Subscript a b pos) (wBin fIxA wa wb) :=
  .bin (.or op2_ixT (.or op2_ixL (.or op2_ixS op2_ixD))) ha hb fun pa pb => pe_ix (ix_tup.or (ix_list.or (ix_str.or (ix_ask hu)))) pa pb hs
/-! in -/
def fInD (neg : Bool) (t1 t2 : OT) (P : OT → Prop) : Prop := ∃ r, dGet t2 t1 r ∧ P (.sh (.bl (if neg then !r.isSome else r.isSome)))
theorem op2_inD {K : PySem.W.Frag} {neg : Bool} : Op2 K (rAskIn K neg) (fInD neg) where
  mono := fun t1 t2 P P' i ⟨d, g, p⟩ => ⟨d, g, i _ p⟩
  ok := fun G H t1 v1 B1 t2 v2 B2 P Q r1 r2 ⟨r, g, p⟩ q => by
    obtain ⟨a, rfl, _, z⟩ := dGet_ask r2 r1 g
    rcases z with ⟨rfl, ga⟩ | ⟨d', x, rfl, ga, rx⟩
    · exact ⟨a, _, rfl, ga, q _ _ _ _ p (.here (.bl _))⟩
    · exact ⟨a, _, rfl, ga, q _ _ _ _ p (.here (.bl _))⟩
/-- data in a list of data -/
def fInP (neg : Bool) (t1 t2 : OT) (P : OT → Prop) : Prop := ∃ x ys, t1.val.py = some x ∧ t2.val.py = some (.list ys) ∧ SeqAt.shaped x = true ∧ SeqAt.shaped (.list ys) = true ∧ P (.sh (.bl (if neg then !ys.any (fun z => PyData.eqv z x) else ys.any fun z => PyData.eqv z x)))
theorem op2_inP {K : PySem.W.Frag} : Op2 K (rInD K) (fInP false) where
  mono := fun t1 t2 P P' i ⟨x, y, e1, e2, z1, z2, p⟩ => ⟨x, y, e1, e2, z1, z2, i _ p⟩
  ok := fun G H t1 v1 B1 t2 v2 B2 P Q r1 r2 ⟨x, y, e1, e2, z1, z2, p⟩ q => ⟨x, y, r1.dp e1, r2.dp e2, z1, z2, q _ _ _ _ p (.here (.bl _))⟩
theorem op2_notInP {K : PySem.W.Frag} : Op2 K (rNotInD K) (fInP true) where
  mono := fun t1 t2 P P' i ⟨x, y, e1, e2, z1, z2, p⟩ => ⟨x, y, e1, e2, z1, z2, i _ p⟩
  ok := fun G H t1 v1 B1 t2 v2 B2 P Q r1 r2 ⟨x, y, e1, e2, z1, z2, p⟩ q => ⟨x, y, r1.dp e1, r2.dp e2, z1, z2, q _ _ _ _ p (.here (.bl _))⟩
def fInA (neg : Bool) (t1 t2 : OT) (P : OT → Prop) : Prop := fInT neg t1 t2 P ∨ fInS neg t1 t2 P ∨ fInD neg t1 t2 P ∨ fInP neg t1 t2 P
def rInA (K : PySem.W.Frag) (neg : Bool) : R2 := fun x y H Q => rIn K neg x y H Q ∨ rInS neg x y H Q ∨ rAskIn K neg x y H Q ∨ (if neg then rNotInD K else rInD K) x y H Q
theorem cInA (hu : X.A.units + 65 < cLine) : CmpOk X .In (rInA X.K false) (fInA false) := .or cInT (.or cInS (.or ⟨op_askIn (by omega), op2_inD⟩ ⟨op_inD hu, op2_inP⟩))
theorem cNotInA (hu : X.A.units + 65 < cLine) : CmpOk X .NotIn (rInA X.K true) (fInA true) := .or cNotInT (.or cNotInS (.or ⟨op_askNotIn (by omega), op2_inD⟩ ⟨op_notInD hu, op2_notInP⟩))
/-! d.get(k, x) -/
def OT.isD : OT → Bool
  | .sh (.dK _) => true
  | .sh (.dT _) => true
  | .dK _ => true
  | .dT _ => true
  | _ => false
theorem RepO.isD {K : PySem.W.Frag} {H : Hp} {G : List Addr} {t : OT} {v : V} {B : List Addr} (r : RepO K H G t v B) (e : t.isD = true) : ∃ a, v = .ref a ∧ IsD H a := by
  cases r with
  | sh h =>
    cases h with
    | dK h1 h2 h3 h4 => exact ⟨_, rfl, .inl ⟨_, h1⟩⟩
    | dT h1 h2 h3 h4 => exact ⟨_, rfl, .inr ⟨_, h1⟩⟩
    | _ => cases e
  | dK h e2 q => exact ⟨_, rfl, .inl ⟨_, .inl h⟩⟩
  | dT h e2 q => exact ⟨_, rfl, .inr ⟨_, .inl h⟩⟩
  | _ => cases e
def orElse (r : Option D) (d : D) : D := match r with
  | some x => x
  | none => d
def wGet2 (wd wk wx : WE) : WE := fun Γ R => wd Γ fun t Γ1 => t.isD = true ∧ wk Γ1 fun tk Γ2 => wx Γ2 fun tx Γ3 => ∃ r, dGet t tk r ∧ R (.sh (orElse r tx.val)) Γ3
theorem XE.get2 {o f : Expr} {apos cpos : Pos} {wd wk wx : WE} (hu : X.A.units + 1 < cLine) (ho : XU X o wd) (hk : XU X e wk) (hx : XE X f wx) (m : M2 X o "get" apos e f cpos) : XE X (.Call (.Attribute o "get" apos) [e, f] [] cpos) (wGet2 wd wk wx) := by
  refine ⟨peW (pe_ask2 hu ho.pe hk.pe hx.pe m) fun σ H Q => ?_, fun Γ P P' i q => ho.mono _ _ _ (fun t Γ1 q1 => ⟨q1.1, hk.mono _ _ _ (fun tk Γ2 q2 => hx.mono _ _ _ (fun tx Γ3 ⟨r, g, q3⟩ => ⟨r, g, i _ _ q3⟩) q2) q1.2⟩) q⟩
  rintro ⟨H0, M0, F, Γ, O, st, hw⟩
  refine ⟨H0, M0, F, Γ, O, st, ho.mono _ _ _ (fun t1 Γ1 q1 v1 H1 F1 B1 O1 c1 r1 => ?_) hw⟩
  obtain ⟨a, rfl, d1⟩ := r1.isD q1.1
  refine ⟨a, rfl, d1, H0, M0, F1, Γ1, O1, c1.st, hk.mono _ _ _ (fun t2 Γ2 q2 v2 H2 F2 B2 O2 c2 r2 => ?_) q1.2⟩
  refine ⟨H0, M0, F2, Γ2, O2, c2.st, hx.mono _ _ _ (fun t3 Γ3 ⟨r, g, q3⟩ v3 H3 Od O3 c3 fr3 r3 => ?_) q2⟩
  have c3b := c3.base
  have r1' := (r1.ext c2.ext fun a _ o e => c2.same a o e).ext c3b.ext fun a _ o e => c3b.same a o e
  have r2' := r2.ext c3b.ext fun a _ o e => c3b.same a o e
  have rd := c3.dropped c2.st fr3 r3
  have cc := (c1.trans c2).trans c3b
  obtain ⟨a', ea, _, z⟩ := dGet_ask r1' r2' g
  cases ea
  rcases z with ⟨rfl, ga⟩ | ⟨d', x, rfl, ga, rx⟩
  · obtain ⟨c, fr, rr⟩ := cc.fin (New.here rd)
    exact ⟨_, ga, q3 _ _ _ _ c fr rr⟩
  · obtain ⟨c, fr, rr⟩ := cc.fin (New.here rx)
    exact ⟨_, ga, q3 _ _ _ _ c fr rr⟩
/-! ### slices -/
structure XO (X : Cx) (e : Option Expr) (w : Env' → (Option Int → Env' → Prop) → Prop) : Prop where
  po : PO X e (fun σ H Q => ∃ H0 M0 F Γ O, SOk X.K H0 M0 F Γ σ H O ∧ w Γ fun o Γ' => ∀ H' O', Chn X.K H0 M0 F σ H O Γ' H' F O' → Q o H')
  mono : ∀ Γ (P P' : Option Int → Env' → Prop), (∀ t Γ', P t Γ' → P' t Γ') → w Γ P → w Γ P'
def woNone : Env' → (Option Int → Env' → Prop) → Prop := fun Γ R => R none Γ
def woSome (w : WE) : Env' → (Option Int → Env' → Prop) → Prop := fun Γ R => w Γ fun t Γ1 => ∃ i, t = .sh (.int i) ∧ R (some i) Γ1
theorem poW {e : Option Expr} {t t' : TO} (h : PO X e t) (i : ∀ σ H Q, t' σ H Q → t σ H Q) : PO X e t' := ⟨fun pins s σ H Q I q => h.run pins s σ H Q I (i σ H Q q)⟩
theorem XO.none : XO X none woNone := by
  refine ⟨poW po_none fun σ H Q => ?_, fun Γ P P' i q => i _ _ q⟩
  rintro ⟨H0, M0, F, Γ, O, st, hw⟩
  exact hw _ _ (.refl st)
theorem XO.some (h : XU X e w) : XO X (some e) (woSome w) := by
  refine ⟨poW (po_some h.pe) fun σ H Q => ?_, fun Γ P P' i q => h.mono _ _ _ (fun t Γ1 ⟨k, e, q1⟩ => ⟨k, e, i _ _ q1⟩) q⟩
  rintro ⟨H0, M0, F, Γ, O, st, hw⟩
  refine ⟨H0, M0, F, Γ, O, st, h.mono _ _ _ (fun t Γ1 ⟨k, e, q1⟩ v H1 F1 B1 O1 c1 r1 => ?_) hw⟩
  subst e
  exact ⟨k, r1.int, q1 _ _ c1.base⟩
def cutD (xs : List D) (lo hi : Option Int) : List D := (xs.drop (HT.sIx xs.length 0 lo)).take (HT.sIx xs.length xs.length hi - HT.sIx xs.length 0 lo)
theorem Reps.cut {K : PySem.W.Frag} {H : Hp} {G : List Addr} {ds : List D} {vs : List V} (r : Reps K H G ds vs) (lo hi : Option Int) : Reps K H G (cutD ds lo hi) (cutV vs lo hi) := by
  unfold cutD cutV
  rw [r.length]
  exact (r.drop _).take _
def fSl (t : OT) (lo hi : Option Int) (P : OT → Prop) : Prop :=
  (∃ xs, t = .sh (.tup xs) ∧ P (.sh (.tup (cutD xs lo hi)))) ∨ (∃ xs, t.asR = some xs ∧ P (.lst (cutD xs lo hi))) ∨ ∃ z, t = .sh (.str z) ∧ z.length ≤ sizeLine ∧ P (.sh (.str (cutS z lo hi)))
theorem fSl_mono {t : OT} {lo hi : Option Int} {P P' : OT → Prop} (i : ∀ t, P t → P' t) (h : fSl t lo hi P) : fSl t lo hi P' := by
  rcases h with ⟨xs, e, p⟩ | ⟨xs, e, p⟩ | ⟨z, e, l, p⟩
  · exact .inl ⟨xs, e, i _ p⟩
  · exact .inr (.inl ⟨xs, e, i _ p⟩)
  · exact .inr (.inr ⟨z, e, l, i _ p⟩)
def wSl (wa : WE) (wl wh : Env' → (Option Int → Env' → Prop) → Prop) : WE := fun Γ R => wa Γ fun t Γ1 => wl Γ1 fun lo Γ2 => wh Γ2 fun hi Γ3 => fSl t lo hi fun r => R r Γ3
theorem cut_whole {α : Type} (xs : List α) (lo hi : Option Int) (h : HT.sIx xs.length 0 lo = 0 ∧ HT.sIx xs.length xs.length hi = xs.length) : (xs.drop (HT.sIx xs.length 0 lo)).take (HT.sIx xs.length xs.length hi - HT.sIx xs.length 0 lo) = xs := by
  rw [h.1, h.2]; simp
theorem XE.slice {lo hi : Option Expr} {p2 : Pos} {wl wh : Env' → (Option Int → Env' → Prop) → Prop} (ha : XU X a wa) (hl : XO X lo wl) (hh : XO X hi wh) : XE X (.Subscript a (.Slice lo hi none p2) pos) (wSl wa wl wh) := by
  refine ⟨peW (pe_slice (sl_tupA.or (sl_list.or sl_str)) ha.pe hl.po hh.po) fun σ H Q => ?_, fun Γ P P' i q => ha.mono _ _ _ (fun t Γ1 q1 => hl.mono _ _ _ (fun lo Γ2 q2 => hh.mono _ _ _ (fun hi Γ3 q3 => fSl_mono (fun r => i _ _) q3) q2) q1) q⟩
  rintro ⟨H0, M0, F, Γ, O, st, hw⟩
  refine ⟨H0, M0, F, Γ, O, st, ha.mono _ _ _ (fun t Γ1 q1 v H1 F1 B1 O1 c1 r1 => ?_) hw⟩
  refine ⟨H0, M0, F1, Γ1, O1, c1.st, hl.mono _ _ _ (fun lo' Γ2 q2 H2 O2 c2 => ?_) q1⟩
  refine ⟨H0, M0, F1, Γ2, O2, c2.st, hh.mono _ _ _ (fun hi' Γ3 q3 H3 O3 c3 => ?_) q2⟩
  have c := (c1.trans c2).trans c3
  have c23 := c2.trans c3
  have r := r1.ext c23.ext fun a _ o e => c23.same a o e
  rcases q3 with ⟨xs, e, p⟩ | ⟨xs, e, p⟩ | ⟨z, e, l, p⟩
  · subst e
    obtain ⟨pp, vs, rfl, h1, rs⟩ := r.tupAt
    refine .inl ⟨pp, vs, rfl, h1, fun hw => ?_, fun _ p' hp => ?_⟩
    · have e1 : cutD xs lo' hi' = xs := by
        unfold cutD
        have hl := rs.length
        exact cut_whole xs lo' hi' (by rw [hl]; exact hw)
      rw [e1] at p
      obtain ⟨c', fr, rr⟩ := c.fin (n := by
        cases r with
        | sh r => exact New.here r)
      exact p _ _ _ _ c' fr rr
    · obtain ⟨c', fr, rr⟩ := c.fin (New.tup hp (rs.cut lo' hi'))
      exact p _ _ _ _ c' fr rr
  · obtain ⟨pp, vs, rfl, h1, rs⟩ := r.seqAt e
    refine .inr (.inl ⟨pp, vs, rfl, h1, fun p' hp => ?_⟩)
    obtain ⟨c', fr, rr⟩ := c.fin (New.lst hp (rs.cut lo' hi'))
    exact p _ _ _ _ c' fr rr
  · subst e
    refine .inr (.inr ⟨z, r.str, l, ?_⟩)
    obtain ⟨c', fr, rr⟩ := c.fin (New.here (K := X.K) (.str (cutS z lo' hi')))
    exact p _ _ _ _ c' fr rr
/-! ### fields -/
def OT.fields : OT → Option (Str × List (Str × D))
  | .sh (.ins c fs) => some (c, fs)
  | .ins _ c fs => some (c, fs)
  | _ => none
/-- what a class must say of a field that its instances hold -/
structure FldOk (K : PySem.W.Frag) (c f : Str) : Prop where
  cl : Cls K (He.ga K c)
  no : NoAttr K (He.ga K c) f
theorem RepO.insAt {K : PySem.W.Frag} {H : Hp} {G : List Addr} {t : OT} {v : V} {B : List Addr} {c : Str} {fs : List (Str × D)} (r : RepO K H G t v B) (e : t.fields = some (c, fs)) :
    ∃ p dx ws, v = .ref p ∧ H p = some (.ins (He.ga K c) dx ws) ∧ fs.map (·.1) = ws.map (·.1) ∧ Reps K H G (fs.map (·.2)) (ws.map (·.2)) := by
  cases r with
  | sh h =>
    cases h with
    | ins h1 h2 h3 h4 => cases e; exact ⟨_, _, _, rfl, h1, h3, h4⟩
    | _ => cases e
  | ins h e2 q => cases e; exact ⟨_, _, _, rfl, h, e2, q⟩
  | _ => cases e
theorem lookup_rep {K : PySem.W.Frag} {H : Hp} {G : List Addr} {f : Str} {d : D} : ∀ {fs : List (Str × D)} {ws : List (Str × V)}, fs.map (·.1) = ws.map (·.1) → Reps K H G (fs.map (·.2)) (ws.map (·.2)) → fs.lookup f = some d → ∃ v, ws.lookup f = some v ∧ Rep K H G d v
  | [], _, _, _, h => by cases h
  | (k, x) :: fs, [], e, _, _ => by simp at e
  | (k, x) :: fs, (k2, v) :: ws, e, r, h => by
    simp only [List.map_cons, List.cons.injEq] at e
    obtain ⟨e1, e2⟩ := e
    have e1' : k = k2 := e1
    subst e1'
    simp only [List.map_cons] at r
    cases r with
    | cons h1 t =>
      rw [List.lookup_cons] at h ⊢
      cases q : f == k with
      | true => rw [q] at h; cases h; exact ⟨v, rfl, h1⟩
      | false => rw [q] at h; exact lookup_rep e2 t h
def wFld (C : List Str) (wa : WE) (f : Str) : WE := fun Γ R => wa Γ fun t Γ1 => ∃ c fs d, t.fields = some (c, fs) ∧ c ∈ C ∧ fs.lookup f = some d ∧ R (.sh d) Γ1
theorem XE.fld {f : Str} {C : List Str} (hF : ∀ c ∈ C, FldOk X.K c f) (ha : XU X a wa) (hb : attributeBase a f X.env (eval a X.env) = eval a X.env) : XE X (.Attribute a f pos) (wFld C wa f) := by
  refine ⟨peW (pe_fld ha.pe hb) fun σ H Q => ?_, fun Γ P P' i q => ha.mono _ _ _ (fun t Γ1 ⟨c, fs, d, e1, e2, e3, q1⟩ => ⟨c, fs, d, e1, e2, e3, i _ _ q1⟩) q⟩
  rintro ⟨H0, M0, F, Γ, O, st, hw⟩
  refine ⟨H0, M0, F, Γ, O, st, ha.mono _ _ _ (fun t Γ1 ⟨c, fs, d, e1, e2, e3, q1⟩ v H1 F1 B1 O1 c1 r1 => ?_) hw⟩
  obtain ⟨p, dx, ws, rfl, hp, ek, rs⟩ := r1.insAt e1
  obtain ⟨v, ev, rv⟩ := lookup_rep ek rs e3
  obtain ⟨c', fr, rr⟩ := c1.fin (New.here rv)
  exact ⟨p, _, dx, ws, v, rfl, hp, (hF c e2).cl, (hF c e2).no, ev, q1 _ _ _ _ c' fr rr⟩
/-! ### built-in functions -/
def wUn (f : OT → (OT → Prop) → Prop) (wa : WE) : WE := fun Γ R => wa Γ fun t Γ1 => f t fun r => R r Γ1
theorem XE.callB1 {x : Str} {p : Pos} {id : String} {r : List V → Hp → VK → Prop} {f : OT → (OT → Prop) → Prop} (hc : CallR X (.builtin id) r) (o : Op1 X.K (fun x H Q => r [x] H Q) f) (hg : Gl X x) (hm : X.mg x = none) (hv : bootBuiltins x = some (.builtin id)) (ha : XU X a wa)
    (hn : x ≠ "__name__" := by decide) (hdb : (x == ("__debug__" : Str)) = false := by decide) (he : starEach [a] X.env = (false, eval a X.env) :: starEach [] X.env := by rfl) : XE X (.Call (.Name x p) [a] [] pos) (wUn f wa) :=
  .un o ha fun pa => pe_callB hc hg hm hv (pa_cons pa pa_nil he) hn hdb he rfl
theorem XE.callT1 {x : Str} {p : Pos} {T : String} {r : List V → Hp → VK → Prop} {f : OT → (OT → Prop) → Prop} (hc : CallR X (.type T) r) (o : Op1 X.K (fun x H Q => r [x] H Q) f) (hg : Gl X x) (hm : X.mg x = none) (hv : bootBuiltins x = some (.type T)) (ha : XU X a wa)
    (hn : x ≠ "__name__" := by decide) (hdb : (x == ("__debug__" : Str)) = false := by decide) (he : starEach [a] X.env = (false, eval a X.env) :: starEach [] X.env := by rfl) : XE X (.Call (.Name x p) [a] [] pos) (wUn f wa) :=
  .un o ha fun pa => pe_callTy hc hg hm hv (pa_cons pa pa_nil he) hn hdb he rfl
theorem XE.callB2 {x : Str} {p : Pos} {id : String} {r : List V → Hp → VK → Prop} {f : OT → OT → (OT → Prop) → Prop} (hc : CallR X (.builtin id) r) (o : Op2 X.K (fun x y H Q => r [x, y] H Q) f) (hg : Gl X x) (hm : X.mg x = none) (hv : bootBuiltins x = some (.builtin id)) (ha : XU X a wa) (hb : XU X b wb)
    (hn : x ≠ "__name__" := by decide) (hdb : (x == ("__debug__" : Str)) = false := by decide) (he : starEach [a, b] X.env = (false, eval a X.env) :: starEach [b] X.env := by rfl) (he2 : starEach [b] X.env = (false, eval b X.env) :: starEach [] X.env := by rfl) : XE X (.Call (.Name x p) [a, b] [] pos) (wBin f wa wb) :=
  .bin o ha hb fun pa pb => pe_callB hc hg hm hv (pa_cons pa (pa_cons pb pa_nil he2) he) hn hdb he (by rw [he2]; rfl)
/-- len -/
def OT.len : OT → Option Nat
  | .sh (.str x) => some x.length
  | .sh (.tup xs) => some xs.length
  | .sh (.lst xs) => some xs.length
  | .sh (.fz xs) => some xs.length
  | .lst xs => some xs.length
  | _ => none
def fLen (t : OT) (P : OT → Prop) : Prop := ∃ n, t.len = some n ∧ n ≤ sizeLine ∧ P (.sh (.int n))
theorem op1_len {K : PySem.W.Frag} : Op1 K (fun x H Q => ∃ y n, [x] = [y] ∧ LenV K y H n ∧ Q (.int n) H) fLen where
  mono := fun t1 P P' i ⟨n, e, l, p⟩ => ⟨n, e, l, i _ p⟩
  ok := fun G H t1 v1 B1 P Q r ⟨n, e, l, p⟩ q => by
    have fin : LenV K v1 H n := by
      cases r with
      | sh h =>
        cases h with
        | str x => cases e; exact ⟨l, rfl⟩
        | tup h1 h2 => cases e; exact .inr ⟨_, .inl (.inl h1), h2.length⟩
        | lst h1 h2 h3 => cases e; exact .inl ⟨_, .inl (.inl h1), h3.length⟩
        | fz h1 h2 => cases e; exact .inl ⟨_, h1.elim (fun z => .inl z.1) .inr, h2.length⟩
        | _ => cases e
      | lst h1 h3 => cases e; exact .inl ⟨_, .inl (.inl h1), h3.length⟩
      | _ => cases e
    exact ⟨v1, n, rfl, fin, q _ _ _ _ p (.here (.int _))⟩
def fInt (t : OT) (P : OT → Prop) : Prop := (∃ i, t = .sh (.int i) ∧ P (.sh (.int i))) ∨ ∃ k, t = .sh (.bl k) ∧ P (.sh (.int (if k then 1 else 0)))
theorem op1_int {K : PySem.W.Frag} : Op1 K (fun x H Q => (∃ i, [x] = [V.int i] ∧ Q (.int i) H) ∨ ∃ k, [x] = [V.bl k] ∧ Q (.int (if k then 1 else 0)) H) fInt where
  mono := fun t1 P P' i h => h.imp (fun ⟨n, e, p⟩ => ⟨n, e, i _ p⟩) fun ⟨n, e, p⟩ => ⟨n, e, i _ p⟩
  ok := fun G H t1 v1 B1 P Q r h q => by
    rcases h with ⟨i, rfl, p⟩ | ⟨i, rfl, p⟩
    · exact .inl ⟨i, by rw [r.int], q _ _ _ _ p (.here (.int _))⟩
    · exact .inr ⟨i, by rw [r.bl], q _ _ _ _ p (.here (.int _))⟩
def fTupOf (t : OT) (P : OT → Prop) : Prop := (∃ xs, t.asR = some xs ∧ P (.sh (.tup xs))) ∨ ∃ xs, t = .sh (.tup xs) ∧ P t
theorem op1_tup {K : PySem.W.Frag} : Op1 K (fun x H Q => ∃ p ys, [x] = [V.ref p] ∧ ((SqL K H p ys ∧ ∀ l, H l = none → Q (.ref l) (upd H l (.tup ys))) ∨ (SqT K H p ys ∧ Q (.ref p) H))) fTupOf where
  mono := fun t1 P P' i h => h.imp (fun ⟨n, e, p⟩ => ⟨n, e, i _ p⟩) fun ⟨n, e, p⟩ => ⟨n, e, i _ p⟩
  ok := fun G H t1 v1 B1 P Q r h q => by
    rcases h with ⟨xs, e, p⟩ | ⟨xs, rfl, p⟩
    · obtain ⟨pp, vs, rfl, h1, rs⟩ := r.seqAt e
      exact ⟨pp, vs, rfl, .inl ⟨h1, fun l hl => q _ _ _ _ p (.tup hl rs)⟩⟩
    · obtain ⟨pp, vs, rfl, h1, rs⟩ := r.tupAt
      cases r with
      | sh r => exact ⟨pp, vs, rfl, .inr ⟨h1, q _ _ _ _ p (.here r)⟩⟩
def fLstOf (t : OT) (P : OT → Prop) : Prop := (∃ xs, t.asR = some xs ∧ P (.lst xs)) ∨ ∃ xs, t = .sh (.tup xs) ∧ P (.lst xs)
theorem op1_lst {K : PySem.W.Frag} : Op1 K (fun x H Q => ∃ p ys, [x] = [V.ref p] ∧ (SqL K H p ys ∨ SqT K H p ys) ∧ ∀ l, H l = none → Q (.ref l) (upd H l (.lst ys))) fLstOf where
  mono := fun t1 P P' i h => h.imp (fun ⟨n, e, p⟩ => ⟨n, e, i _ p⟩) fun ⟨n, e, p⟩ => ⟨n, e, i _ p⟩
  ok := fun G H t1 v1 B1 P Q r h q => by
    rcases h with ⟨xs, e, p⟩ | ⟨xs, rfl, p⟩
    · obtain ⟨pp, vs, rfl, h1, rs⟩ := r.seqAt e
      exact ⟨pp, vs, rfl, .inl h1, fun l hl => q _ _ _ _ p (.lst hl rs)⟩
    · obtain ⟨pp, vs, rfl, h1, rs⟩ := r.tupAt
      exact ⟨pp, vs, rfl, .inr h1, fun l hl => q _ _ _ _ p (.lst hl rs)⟩
def fMax := intsD (fun _ _ => True) fun i j => .int (if j > i then j else i)
theorem op2_max {K : PySem.W.Frag} : Op2 K (fun x y H Q => ∃ i j, [x, y] = [V.int i, V.int j] ∧ Q (.int (if j > i then j else i)) H) fMax :=
  (Op2.ints0 (gv := fun i j => V.int (if j > i then j else i)) fun _ _ _ _ => .int _).imp fun x y H Q ⟨i, j, e1, e2, q⟩ => ⟨i, j, by rw [e1, e2], q⟩
def fMin := intsD (fun _ _ => True) fun i j => .int (if j < i then j else i)
theorem op2_min {K : PySem.W.Frag} : Op2 K (fun x y H Q => ∃ i j, [x, y] = [V.int i, V.int j] ∧ Q (.int (if j < i then j else i)) H) fMin :=
  (Op2.ints0 (gv := fun i j => V.int (if j < i then j else i)) fun _ _ _ _ => .int _).imp fun x y H Q ⟨i, j, e1, e2, q⟩ => ⟨i, j, by rw [e1, e2], q⟩
/-! isinstance of a built-in class -/
inductive TyN where
  | int | str | bool | tuple | list
def TyN.name : TyN → String
  | .int => "int" | .str => "str" | .bool => "bool" | .tuple => "tuple" | .list => "list"
def OT.ty : OT → Option String
  | .sh .non => some "NoneType"
  | .sh (.bl _) => some "bool"
  | .sh (.int _) => some "int"
  | .sh (.str _) => some "str"
  | .sh (.tup _) => some "tuple"
  | .sh (.stc _) => some "tuple"
  | .sh (.lst _) => some "list"
  | .lst _ => some "list"
  | _ => none
def OT.isA : OT → TyN → Option Bool
  | .sh .non, _ => some false
  | .sh (.bl _), .bool => some true
  | .sh (.bl _), .int => some true
  | .sh (.bl _), _ => some false
  | .sh (.int _), .int => some true
  | .sh (.int _), _ => some false
  | .sh (.str _), .str => some true
  | .sh (.str _), _ => some false
  | .sh (.tup _), .tuple => some true
  | .sh (.stc _), .tuple => some true
  | .sh (.stc _), _ => some false
  | .sh (.tup _), _ => some false
  | .sh (.lst _), .list => some true
  | .sh (.lst _), _ => some false
  | .lst _, .list => some true
  | .lst _, _ => some false
  | _, _ => none
def fIsA (n : TyN) (t : OT) (P : OT → Prop) : Prop := ∃ b, t.isA n = some b ∧ P (.sh (.bl b))
theorem OT.isA_kit {t : OT} {n : TyN} {b : Bool} (h : t.isA n = some b) : ∃ T, t.ty = some T ∧ kitB T n.name = some b := by
  have k1 : kitB "NoneType" "int" = some false := by decide +kernel
  have k2 : kitB "NoneType" "str" = some false := by decide +kernel
  have k3 : kitB "NoneType" "bool" = some false := by decide +kernel
  have k4 : kitB "NoneType" "tuple" = some false := by decide +kernel
  have k5 : kitB "NoneType" "list" = some false := by decide +kernel
  have b1 : kitB "bool" "int" = some true := by decide +kernel
  have b2 : kitB "bool" "str" = some false := by decide +kernel
  have b3 : kitB "bool" "bool" = some true := by decide +kernel
  have b4 : kitB "bool" "tuple" = some false := by decide +kernel
  have b5 : kitB "bool" "list" = some false := by decide +kernel
  have i1 : kitB "int" "int" = some true := by decide +kernel
  have i2 : kitB "int" "str" = some false := by decide +kernel
  have i3 : kitB "int" "bool" = some false := by decide +kernel
  have i4 : kitB "int" "tuple" = some false := by decide +kernel
  have i5 : kitB "int" "list" = some false := by decide +kernel
  have s1 : kitB "str" "int" = some false := by decide +kernel
  have s2 : kitB "str" "str" = some true := by decide +kernel
  have s3 : kitB "str" "bool" = some false := by decide +kernel
  have s4 : kitB "str" "tuple" = some false := by decide +kernel
  have s5 : kitB "str" "list" = some false := by decide +kernel
  have t1 : kitB "tuple" "int" = some false := by decide +kernel
  have t2 : kitB "tuple" "str" = some false := by decide +kernel
  have t3 : kitB "tuple" "bool" = some false := by decide +kernel
  have t4 : kitB "tuple" "tuple" = some true := by decide +kernel
  have t5 : kitB "tuple" "list" = some false := by decide +kernel
  have l1 : kitB "list" "int" = some false := by decide +kernel
  have l2 : kitB "list" "str" = some false := by decide +kernel
  have l3 : kitB "list" "bool" = some false := by decide +kernel
  have l4 : kitB "list" "tuple" = some false := by decide +kernel
  have l5 : kitB "list" "list" = some true := by decide +kernel
  cases t with
  | sh d => cases d <;> cases n <;> first | (cases h; exact ⟨_, rfl, by assumption⟩) | cases h
  | lst xs => cases n <;> (cases h; exact ⟨_, rfl, by assumption⟩)
  | _ => cases n <;> cases h
theorem RepO.tyx {K : PySem.W.Frag} {H : Hp} {G : List Addr} {t : OT} {v : V} {B : List Addr} {T : String} (r : RepO K H G t v B) (e : t.ty = some T) : TyX K H v (.type T) := by
  cases r with
  | sh h =>
    cases h with
    | non => cases e; exact .base .non
    | bl b => cases e; exact .base (.bl b)
    | int i => cases e; exact .base (.int i)
    | str x => cases e; exact .base (.str x)
    | tup h1 h2 => cases e; exact .base (.tup h1)
    | tupK h1 h2 => cases e; obtain ⟨o, its, n, q1, q2, _⟩ := h1; exact .kTuple q1 q2
    | lst h1 h2 h3 => cases e; exact .base (.lst h1)
    | _ => cases e
  | lst h1 h2 => cases e; exact .base (.lst h1)
  | _ => cases e
theorem op1_isA {K : PySem.W.Frag} (n : TyN) : Op1 K (fun x H Q => rIsi K [x, .ty n.name] H Q) (fIsA n) where
  mono := fun t1 P P' i ⟨b, e, p⟩ => ⟨b, e, i _ p⟩
  ok := fun G H t1 v1 B1 P Q r ⟨b, e, p⟩ q => by
    obtain ⟨T, e1, e2⟩ := OT.isA_kit e
    exact ⟨v1, .ty n.name, .type T, .type n.name, b, rfl, .ty _, r.tyx e1, kit_ty e2, q _ _ _ _ p (.here (.bl _))⟩
theorem XE.isA {x y : Str} {p p2 : Pos} (n : TyN) (hg : Gl X x) (hm : X.mg x = none) (hv : bootBuiltins x = some (.builtin "isinstance")) (hg2 : Gl X y) (hm2 : X.mg y = none) (hv2 : bootBuiltins y = some (.type n.name)) (ha : XU X a wa)
    (hn : x ≠ "__name__" := by decide) (hdb : (x == ("__debug__" : Str)) = false := by decide) (hn2 : y ≠ "__name__" := by decide) (hdb2 : (y == ("__debug__" : Str)) = false := by decide) (he : starEach [a, .Name y p2] X.env = (false, eval a X.env) :: starEach [.Name y p2] X.env := by rfl) :
    XE X (.Call (.Name x p) [a, .Name y p2] [] pos) (wUn (fIsA n) wa) :=
  .un (op1_isA n) ha fun pa => pe_callB call_isi hg hm hv (pa_cons pa (pa_cons (pe_bltn (v := .ty n.name) hg2 hm2 hv2 rfl hn2 hdb2) pa_nil rfl) he) hn hdb he rfl
end
end EV

set_option maxHeartbeats 4000000
/-! Ev, part E: statements, targets, own calls, a def by its body. -/
namespace EV
open PySem PySem.Spec L2

section
variable {X : Cx} {a b c e : Expr} {es : List Expr} {wa wb wc w : WE} {wr : WA} {tc : WT} {pos : Pos} {st : Stmt} {rest b1 b2 : List Stmt} {u v : WS}
def wNext : WS := fun W Γ => W.nx Γ
def wSeq (u v : WS) : WS := fun W Γ => u { W with nx := v W } Γ
theorem pssW {l : List Stmt} {t t' : TS} (h : PSs X l t) (i : ∀ D σ H, t' D σ H → t D σ H) : PSs X l t' := ⟨fun pins s σ H D I q => h.run pins s σ H D I (i D σ H q)⟩
theorem XSs.nil : XSs X [] wNext := by
  refine ⟨pssW pss_nil fun D σ H => ?_, fun W W' Γ l q => l.nx _ q⟩
  rintro ⟨H0, M0, F, Γ, O, st, hw⟩
  exact hw σ H O st
theorem XSs.one (h : XS X st u) : XSs X [st] u := ⟨pss_one h.ps, h.mono⟩
theorem XSs.cons (h : XS X st u) (h' : XSs X rest v) : XSs X (st :: rest) (wSeq u v) := by
  refine ⟨pssW (pss_cons h.ps h'.ps) fun D σ H => ?_, fun W W' Γ l q => h.mono { W with nx := v W } { W' with nx := v W' } Γ ⟨fun Γ1 q1 => h'.mono _ _ _ l q1, l.rt, l.bk, l.ct⟩ q⟩
  rintro ⟨H0, M0, F, Γ, O, st, hw⟩
  exact ⟨H0, M0, F, Γ, O, st, h.mono { liftW X.K H0 M0 F D with nx := v (liftW X.K H0 M0 F D) } _ _ ⟨fun Γ1 q1 σ' H' O' st' => ⟨H0, M0, F, Γ1, O', st', q1⟩, fun t q => q, fun t q => q, fun t q => q⟩ hw⟩
theorem XS.pass : XS X (.Pass pos) wNext := by
  refine ⟨psW ps_pass fun D σ H => ?_, fun W W' Γ l q => l.nx _ q⟩
  rintro ⟨H0, M0, F, Γ, O, st, hw⟩
  exact hw σ H O st
theorem XS.brk : XS X (.Break pos) (fun W Γ => W.bk Γ) := by
  refine ⟨psW ps_break fun D σ H => ?_, fun W W' Γ l q => l.bk _ q⟩
  rintro ⟨H0, M0, F, Γ, O, st, hw⟩
  exact hw σ H O st
theorem XS.cont : XS X (.Continue pos) (fun W Γ => W.ct Γ) := by
  refine ⟨psW ps_continue fun D σ H => ?_, fun W W' Γ l q => l.ct _ q⟩
  rintro ⟨H0, M0, F, Γ, O, st, hw⟩
  exact hw σ H O st
theorem SOk.later {K : PySem.W.Frag} {H0 : Hp} {M0 F : List Addr} {Γ : Env'} {σ : St} {H : Hp} {O : List Addr} (st : SOk K H0 M0 F Γ σ H O) {a : Addr} (h : a ∈ O ∨ H a = none) : a ∈ M0 ∨ H0 a = none := by
  rcases h with h | h
  · exact st.own a h
  · by_cases m : a ∈ M0
    · exact .inl m
    · cases e : H0 a with
      | none => exact .inr rfl
      | some o => rw [st.keep a o e m] at h; cases h
/-- return e -/
def wRet (w : WE) : WS := fun W Γ => w Γ fun t _ => W.rt t
theorem XS.ret (h : XE X e w) : XS X (.Return (some e) pos) (wRet w) := by
  refine ⟨psW (ps_ret h.pe) fun D σ H => ?_, fun W W' Γ l q => h.mono _ _ _ (fun t Γ1 q1 => l.rt _ q1) q⟩
  rintro ⟨H0, M0, F, Γ, O, st, hw⟩
  refine ⟨H0, M0, F, Γ, O, st, h.mono _ _ _ (fun t Γ1 q1 v H' Od O' c fr r => q1 v H' Od ⟨r.ext (.sub fun a m => List.mem_append_left _ m) (fun _ _ _ e => e), fun a m z => ?_, fun a m => c.st.trk a (List.mem_append_left _ m), fun a o e m => c.same _ _ (st.keep a o e m), fun a m => st.later (fr a m)⟩) hw⟩
  rcases fr a m with y | y
  · exact st.dj a y z
  · obtain ⟨o, eo⟩ := st.trk a (List.mem_append_left _ z)
    rw [y] at eo; cases eo
/-- return x: what it holds goes with it -/
def wRetN (i : Nat) : WS := fun W Γ => ∃ t, Γ[i]? = some (some t) ∧ W.rt t
theorem XS.retN {i : Nat} (h : PE X e (tVar i)) : XS X (.Return (some e) pos) (wRetN i) := by
  refine ⟨psW (ps_ret h) fun D σ H => ?_, fun W W' Γ l ⟨t, e, q⟩ => ⟨t, e, l.rt _ q⟩⟩
  rintro ⟨H0, M0, F, Γ, O, st, t, et, q⟩
  obtain ⟨v, P, O1, S, h1, h2, h3, _⟩ := st.rep.at et
  have sb : ∀ a ∈ O1, a ∈ O := fun a m => by rw [h3]; simp [m]
  refine ⟨v, h1, q v H O1 ⟨h2.ext (.sub fun a m => ?_) (fun _ _ _ e => e), fun a m z => st.dj a (sb a m) z, fun a m => st.trk a ?_, st.keep, fun a m => st.own a (sb a m)⟩⟩
  all_goals
    rcases List.mem_append.mp m with m | m
    · exact List.mem_append_left _ m
    · exact List.mem_append_right _ (sb a m)
theorem XS.ret0 : XS X (.Return none pos) (fun W _ => W.rt (.sh .non)) := by
  refine ⟨psW ps_retN fun D σ H => ?_, fun W W' Γ l q => l.rt _ q⟩
  rintro ⟨H0, M0, F, Γ, O, st, hw⟩
  exact hw .non H [] ⟨.sh .non, fun _ m => (nomatch m), fun a m => st.trk a (by simp at m; simp [m]), st.keep, fun _ m => nomatch m⟩
/-- an expression whose value is dropped -/
def wDrop (w : WE) : WS := fun W Γ => w Γ fun _ Γ1 => W.nx Γ1
theorem XS.expr (h : XE X e w) (hp : PE X e (LE X.K w) → PS X st (tDrop (LE X.K w))) : XS X st (wDrop w) := by
  refine ⟨psW (hp h.pe) fun D σ H => ?_, fun W W' Γ l q => h.mono _ _ _ (fun t Γ1 q1 => l.nx _ q1) q⟩
  rintro ⟨H0, M0, F, Γ, O, st, hw⟩
  exact ⟨H0, M0, F, Γ, O, st, h.mono _ _ _ (fun t Γ1 q1 v H' Od O' c fr r => q1 σ H' O' c.base.st) hw⟩
/-- never reached -/
theorem XS.never : XS X st (fun _ _ => False) := ⟨psW ps_never fun D σ H => by rintro ⟨_, _, _, _, _, _, h⟩; exact h, fun _ _ _ _ h => h⟩
theorem XSs.never : XSs X rest (fun _ _ => False) := ⟨pssW pss_never fun D σ H => by rintro ⟨_, _, _, _, _, _, h⟩; exact h, fun _ _ _ _ h => h⟩
def wIfS (t : WT) (u v : WS) : WS := fun W Γ => t Γ fun k Γ1 => if k = true then u W Γ1 else v W Γ1
theorem XS.ifs (hc : XT X c tc) (h : XSs X b1 u) (h' : XSs X b2 v) : XS X (.If c b1 b2 pos) (wIfS tc u v) := by
  refine ⟨psW (ps_if hc.pt h.ps h'.ps) fun D σ H => ?_, fun W W' Γ l q => hc.mono _ _ _ (fun k Γ1 q1 => by
    cases k with
    | true => exact h.mono _ _ _ l q1
    | false => exact h'.mono _ _ _ l q1) q⟩
  rintro ⟨H0, M0, F, Γ, O, st, hw⟩
  refine ⟨H0, M0, F, Γ, O, st, hc.mono _ _ _ (fun k Γ1 q1 H1 O1 c1 => ?_) hw⟩
  cases k with
  | true => exact ⟨H0, M0, F, Γ1, O1, c1.st, q1⟩
  | false => exact ⟨H0, M0, F, Γ1, O1, c1.st, q1⟩
/-! ### targets -/
abbrev WG := OT → Env' → (Env' → Prop) → Prop
/-- outside these places the slots stay -/
def Only' (js : List Nat) (σ σ' : St) : Prop := σ'.length = σ.length ∧ ∀ j, j ∉ js → σ'[j]? = σ[j]?
def LG (K : PySem.W.Frag) (g : WG) (js : List Nat) : TG := fun v σ H Q => ∃ H0 M0 F Γ O t Od, SOk K H0 M0 (F ++ Od) Γ σ H O ∧ (∀ a ∈ Od, a ∉ F) ∧ Od.Nodup ∧ (∀ a ∈ Od, a ∈ M0 ∨ H0 a = none) ∧ RepO K H ((F ++ Od) ++ O) t v Od ∧
  g t Γ fun Γ' => ∀ σ' O', SOk K H0 M0 F Γ' σ' H O' → (∀ a ∈ O', a ∈ O ∨ a ∈ Od) → Only' js σ σ' → Q σ' H
structure XG (X : Cx) (e : Expr) (g : WG) (js : List Nat) : Prop where
  pg : PG X e (LG X.K g js)
  mono : ∀ t Γ (P P' : Env' → Prop), (∀ Γ', P Γ' → P' Γ') → g t Γ P → g t Γ P'
theorem pgW {t t' : TG} (h : PG X e t) (i : ∀ v σ H Q, t' v σ H Q → t v σ H Q) : PG X e t' := ⟨fun pins s σ H v u Q I r q => h.run pins s σ H v u Q I r (i v σ H Q q)⟩
def gVar (i : Nat) : WG := fun t Γ P => i < Γ.length ∧ P (Γ.set i (some t))
theorem RepO.nodup {K : PySem.W.Frag} {H : Hp} {G : List Addr} {t : OT} {v : V} {O : List Addr} (r : RepO K H G t v O) : O.Nodup := by
  cases r <;> simp
theorem stored {K : PySem.W.Frag} {H0 : Hp} {M0 F : List Addr} {Γ : Env'} {σ : St} {H : Hp} {O Od : List Addr} {t : OT} {v : V} {i : Nat} (st : SOk K H0 M0 (F ++ Od) Γ σ H O) (hd : ∀ a ∈ Od, a ∉ F) (hn : Od.Nodup) (ho : ∀ a ∈ Od, a ∈ M0 ∨ H0 a = none)
    (r : RepO K H ((F ++ Od) ++ O) t v Od) (hi : i < Γ.length) : ∃ O', SOk K H0 M0 F (Γ.set i (some t)) (σ.set i (some v)) H O' ∧ ∀ a ∈ O', a ∈ O ∨ a ∈ Od := by
  obtain ⟨P, Y, S, e, q⟩ := st.rep.put hi r
  have nd := st.nd
  rw [e] at nd
  have dj := st.dj
  have sb : ∀ a, a ∈ P ++ Od ++ S → a ∈ Od ∨ a ∈ O := fun a m => by
    rw [e]; simp only [List.mem_append] at m ⊢
    rcases m with (m | m) | m
    · exact .inr (.inl (.inl m))
    · exact .inl m
    · exact .inr (.inr m)
  refine ⟨P ++ Od ++ S, ⟨q.ext (.sub fun a m => ?_) (fun _ _ _ e => e), ?_, fun a m z => ?_, fun a m => st.trk a ?_, st.keep, fun a m => ?_⟩, fun a m => (sb a m).symm⟩
  · rcases List.mem_append.mp m with m | m
    · simp [m]
    · rcases sb a m with y | y <;> simp [y]
  · have dP : ∀ a ∈ P, a ∉ Od := fun a m z => dj a (by rw [e]; simp [m]) (List.mem_append_right _ z)
    have dS : ∀ a ∈ S, a ∉ Od := fun a m z => dj a (by rw [e]; simp [m]) (List.mem_append_right _ z)
    simp only [List.append_assoc, List.nodup_append] at nd ⊢
    refine ⟨nd.1, ⟨hn, nd.2.1.2.1, fun a m b mb eab => dS b mb (eab ▸ m)⟩, fun a m b mb eab => ?_⟩
    rcases List.mem_append.mp mb with mb | mb
    · exact dP a m (eab ▸ mb)
    · exact nd.2.2 a m b (List.mem_append_right _ mb) eab
  · rcases sb a m with y | y
    · exact hd a y z
    · exact st.dj a y (List.mem_append_left _ z)
  · rcases List.mem_append.mp m with m | m
    · simp [m]
    · rcases sb a m with y | y <;> simp [y]
  · rcases sb a m with y | y
    · exact ho a y
    · exact st.own a y
theorem only_set (i : Nat) (x : Option V) (σ : St) : Only' [i] σ (σ.set i x) := ⟨List.length_set, fun j h => List.getElem?_set_ne (fun e => h (by simp [e]))⟩
theorem XG.var {i : Nat} (h : PG X e (gName i)) : XG X e (gVar i) [i] := by
  refine ⟨pgW h fun v σ H Q => ?_, fun t Γ P P' i q => ⟨q.1, i _ q.2⟩⟩
  rintro ⟨H0, M0, F, Γ, O, t, Od, st, hd, hn, ho, r, hi, q⟩
  obtain ⟨O', st', sb⟩ := stored st hd hn ho r hi
  exact q _ O' st' sb (only_set _ _ _)
/-- targets in a row, over shared data -/
abbrev WGs := List D → Env' → (Env' → Prop) → Prop
def LGs (K : PySem.W.Frag) (g : WGs) (js : List Nat) : TGs := fun vs σ H Q => ∃ H0 M0 F Γ O ds, SOk K H0 M0 F Γ σ H O ∧ Reps K H (F ++ O) ds vs ∧ g ds Γ fun Γ' => ∀ σ' O', SOk K H0 M0 F Γ' σ' H O' → (∀ a ∈ O', a ∈ O) → Only' js σ σ' → Q σ' H
structure XGs (X : Cx) (es : List Expr) (g : WGs) (js : List Nat) : Prop where
  pgs : PGs X es (LGs X.K g js)
  mono : ∀ t Γ (P P' : Env' → Prop), (∀ Γ', P Γ' → P' Γ') → g t Γ P → g t Γ P'
theorem pgsW {t t' : TGs} (h : PGs X es t) (i : ∀ v σ H Q, t' v σ H Q → t v σ H Q) : PGs X es t' := ⟨fun pins s σ H v u Q I r q => h.run pins s σ H v u Q I r (i v σ H Q q)⟩
def gsNil : WGs := fun ds Γ P => ds = [] ∧ P Γ
def gsCons (g : WG) (gs : WGs) : WGs := fun ds Γ P => ∃ d r, ds = d :: r ∧ g (.sh d) Γ fun Γ1 => gs r Γ1 P
theorem XGs.nil : XGs X [] gsNil [] := by
  refine ⟨pgsW pgs_nil fun v σ H Q => ?_, fun t Γ P P' i q => ⟨q.1, i _ q.2⟩⟩
  rintro ⟨H0, M0, F, Γ, O, ds, st, r, e, q⟩
  subst e
  cases r
  exact ⟨rfl, q σ O st (fun _ m => m) ⟨rfl, fun _ _ => rfl⟩⟩
theorem Reps.less {K : PySem.W.Frag} {F O O' : List Addr} {H : Hp} {ds : List D} {vs : List V} (r : Reps K H (F ++ O) ds vs) (sub : ∀ a ∈ O', a ∈ O) : Reps K H (F ++ O') ds vs :=
  r.ext (.sub fun a m => by
    rcases List.mem_append.mp m with m | m
    · exact List.mem_append_left _ m
    · exact List.mem_append_right _ (sub a m))
theorem SOk.nilF {K : PySem.W.Frag} {H0 : Hp} {M0 F : List Addr} {Γ : Env'} {σ : St} {H : Hp} {O : List Addr} (st : SOk K H0 M0 F Γ σ H O) : SOk K H0 M0 (F ++ []) Γ σ H O := by rw [List.append_nil]; exact st
theorem Only'.trans {js ks : List Nat} {σ σ1 σ2 : St} (h : Only' js σ σ1) (h' : Only' ks σ1 σ2) : Only' (js ++ ks) σ σ2 := ⟨h'.1.trans h.1, fun j m => (h'.2 j fun z => m (List.mem_append_right _ z)).trans (h.2 j fun z => m (List.mem_append_left _ z))⟩
theorem XGs.cons {g : WG} {gs : WGs} {js ks : List Nat} (h : XG X e g js) (h' : XGs X es gs ks) (hs : (assignEach (e :: es) X.env).map (·.2) = assign e X.env :: (assignEach es X.env).map (·.2)) : XGs X (e :: es) (gsCons g gs) (js ++ ks) := by
  refine ⟨pgsW (pgs_cons h.pg h'.pgs hs) fun v σ H Q => ?_, fun t Γ P P' i ⟨d, r, e, q⟩ => ⟨d, r, e, h.mono _ _ _ _ (fun Γ1 q1 => h'.mono _ _ _ _ i q1) q⟩⟩
  rintro ⟨H0, M0, F, Γ, O, ds, st, r, d, ds', e, q⟩
  subst e
  cases r with
  | cons r1 rr =>
    refine ⟨_, _, rfl, H0, M0, F, Γ, O, .sh d, [], st.nilF, fun _ m => (nomatch m), List.nodup_nil, fun _ m => (nomatch m), .sh (by simpa using r1), h.mono _ _ _ _ (fun Γ1 q1 σ1 O1 st1 sb on => ?_) q⟩
    have sb' : ∀ a ∈ O1, a ∈ O := fun a m => (sb a m).elim id fun z => nomatch z
    exact ⟨H0, M0, F, Γ1, O1, ds', st1, rr.less sb', h'.mono _ _ _ _ (fun Γ2 q2 σ2 O2 st2 sb2 on2 => q2 σ2 O2 st2 (fun a m => sb' a (sb2 a m)) (on.trans on2)) q1⟩
def gTupD (n : Nat) (gs : WGs) : WG := fun t Γ P => ∃ ds, t = .sh (.tup ds) ∧ ds.length = n ∧ gs ds Γ P
theorem XG.tup {k n : Nat} {gs : WGs} {js : List Nat} (hc : X.calm = true) (h : XGs X es gs js) (hn : (assignEach es X.env).length = n) (hst : (assignEach es X.env).findIdx? (·.1) = none) : XG X (.Tuple es k pos) (gTupD n gs) js := by
  refine ⟨pgW (pg_tup hc h.pgs hn hst) fun v σ H Q => ?_, fun t Γ P P' i ⟨ds, e, l, q⟩ => ⟨ds, e, l, h.mono _ _ _ _ i q⟩⟩
  rintro ⟨H0, M0, F, Γ, O, t, Od, st, hd, hnd, ho, r, ds, e, l, q⟩
  subst e
  obtain ⟨p, vs, rfl, h1, rs⟩ := r.tupAt
  have st' := st.thin (F := F) fun a m => List.mem_append_left _ m
  exact ⟨p, vs, rfl, h1, by rw [← rs.length]; exact l, H0, M0, F, Γ, O, ds, st', rs.ext (.sub fun a m => by
    rcases List.mem_append.mp m with m | m
    · simp [m]
    · simp [m]), h.mono _ _ _ _ (fun Γ1 q1 σ1 O1 st1 sb on => q1 σ1 O1 st1 (fun a m => .inl (sb a m)) on) q⟩
/-! ### assignment -/
def wAsg (w : WE) (g : WG) : WS := fun W Γ => w Γ fun t Γ1 => g t Γ1 W.nx
theorem lasg {w : WE} {g : WG} {js : List Nat} {K : PySem.W.Frag} (hm : MonoE w) (gm : ∀ t Γ (P P' : Env' → Prop), (∀ Γ', P Γ' → P' Γ') → g t Γ P → g t Γ P') (D : Ends) (σ : St) (H : Hp) (h : LS K (wAsg w g) D σ H) : tAsg (LE K w) (LG K g js) D σ H := by
  obtain ⟨H0, M0, F, Γ, O, st, hw⟩ := h
  refine ⟨H0, M0, F, Γ, O, st, hm _ _ _ (fun t Γ1 q1 v H' Od O' c fr r => ?_) hw⟩
  refine ⟨H0, M0, F, Γ1, O', t, Od, c.st, fun a m z => ?_, r.nodup, fun a m => st.later (fr a m), r, gm _ _ _ _ (fun Γ2 q2 σ' O2 st2 _ _ => q2 σ' H' O2 st2) q1⟩
  rcases fr a m with y | y
  · exact st.dj a y z
  · obtain ⟨o, eo⟩ := st.trk a (List.mem_append_left _ z)
    rw [y] at eo; cases eo
theorem XS.asg {g : WG} {js : List Nat} (h : XE X e w) (hg : XG X a g js) (hp : PE X e (LE X.K w) → PG X a (LG X.K g js) → PS X st (tAsg (LE X.K w) (LG X.K g js))) : XS X st (wAsg w g) :=
  ⟨psW (hp h.pe hg.pg) fun D σ H q => lasg h.mono hg.mono D σ H q, fun W W' Γ l q => h.mono _ _ _ (fun t Γ1 q1 => hg.mono _ _ _ _ l.nx q1) q⟩
/-- name = e, by the rule for names -/
theorem lgVar {K : PySem.W.Frag} {i : Nat} {v : V} {σ : St} {H : Hp} {Q : St → Hp → Prop} (h : LG K (gVar i) [i] v σ H Q) : gName i v σ H Q := by
  obtain ⟨H0, M0, F, Γ, O, t, Od, st, hd, hn, ho, r, hi, q⟩ := h
  obtain ⟨O', st', sb⟩ := stored st hd hn ho r hi
  exact q _ O' st' sb (only_set _ _ _)
theorem XS.set {i : Nat} (h : XE X e w) (hp : PE X e (LE X.K w) → PS X st (tAsg (LE X.K w) (gName i))) : XS X st (wAsg w (gVar i)) := by
  refine ⟨psW (hp h.pe) fun D σ H q => ?_, fun W W' Γ l q => h.mono _ _ _ (fun t Γ1 q1 => ⟨q1.1, l.nx _ q1.2⟩) q⟩
  obtain ⟨H0, M0, F, Γ, O, st, hw⟩ := lasg (g := gVar i) (js := [i]) h.mono (fun t Γ P P' i q => ⟨q.1, i _ q.2⟩) D σ H q
  exact ⟨H0, M0, F, Γ, O, st, h.mono _ _ _ (fun t Γ1 q1 v H' Od O' c fr r => lgVar (q1 v H' Od O' c fr r)) hw⟩
/-- a, b = x, y with plain names -/
def wPar (i j : Nat) (wr : WA) : WS := fun W Γ => wr Γ fun ds Γ1 => ∃ d1 d2, ds = [d1, d2] ∧ i < Γ1.length ∧ j < Γ1.length ∧ W.nx ((Γ1.set i (some (.sh d1))).set j (some (.sh d2)))
theorem SOk.put {K : PySem.W.Frag} {H0 : Hp} {M0 F : List Addr} {Γ : Env'} {σ : St} {H : Hp} {O : List Addr} (st : SOk K H0 M0 F Γ σ H O) {d : D} {v : V} {i : Nat} (r : Rep K H (F ++ O) d v) (hi : i < Γ.length) : ∃ O', SOk K H0 M0 F (Γ.set i (some (.sh d))) (σ.set i (some v)) H O' ∧ ∀ a ∈ O', a ∈ O := by
  obtain ⟨O', st', sb⟩ := stored (Od := []) (t := .sh d) (v := v) st.nilF (fun _ m => (nomatch m)) List.nodup_nil (fun _ m => (nomatch m)) (.sh (by simpa using r)) hi
  exact ⟨O', st', fun a m => (sb a m).elim id fun z => nomatch z⟩
theorem XS.par {i j : Nat} (h : XA X es wr) (hp : PA X es (LA X.K wr) → PS X st (tPar i j (LA X.K wr))) : XS X st (wPar i j wr) := by
  refine ⟨psW (hp h.pa) fun D σ H => ?_, fun W W' Γ l q => h.mono _ _ _ (fun ds Γ1 ⟨d1, d2, e, h1, h2, q1⟩ => ⟨d1, d2, e, h1, h2, l.nx _ q1⟩) q⟩
  rintro ⟨H0, M0, F, Γ, O, st, hw⟩
  refine ⟨H0, M0, F, Γ, O, st, h.mono _ _ _ (fun ds Γ1 ⟨d1, d2, e, h1, h2, q1⟩ vs H1 O1 c r => ?_) hw⟩
  subst e
  cases r with
  | cons r1 rr =>
    cases rr with
    | cons r2 rr =>
      cases rr
      obtain ⟨O2, st2, sb2⟩ := c.st.put r1 h1
      have r2' : Rep X.K H1 (F ++ O2) d2 _ := r2.ext (.sub fun a m => by
        rcases List.mem_append.mp m with m | m
        · exact List.mem_append_left _ m
        · exact List.mem_append_right _ (sb2 a m))
      obtain ⟨O3, st3, sb3⟩ := st2.put r2' (by rw [List.length_set]; exact h2)
      exact ⟨_, _, rfl, q1 _ _ O3 st3⟩
/-! ### an owned container changed -/
/-- behind a change of the one object at p that slot i holds -/
theorem SOk.change {K : PySem.W.Frag} {H0 : Hp} {M0 F : List Addr} {Γ : Env'} {σ : St} {H : Hp} {O : List Addr} (st : SOk K H0 M0 F Γ σ H O) {i : Nat} {t t' : OT} {v : V} {p : Addr} {o o' : HO} (ht : Γ[i]? = some (some t)) (hv : σ[i]? = some (some v)) (r : RepO K H (F ++ O) t v [p])
    (hp : H p = some o) (hnt : ∀ vs, o ≠ .tup vs) (r' : ∀ G, Ext (F ++ O) H G (upd H p o') → p ∈ G → RepO K (upd H p o') G t' v [p]) : SOk K H0 M0 F (Γ.set i (some t')) σ (upd H p o') O := by
  obtain ⟨v', P, O1, S, h1, h2, h3, h4⟩ := st.rep.at ht
  rw [hv] at h1
  cases h1
  have eO : O1 = [p] := by
    cases r <;> cases h2 <;> rfl
  subst eO
  have nd := st.nd
  rw [h3] at nd
  have hpO : p ∈ O := by rw [h3]; simp
  have x : Ext (F ++ O) H (F ++ O) (upd H p o') := by
    refine ⟨fun a u hg e => ⟨u, ?_, .inl rfl⟩, fun a vs e => ?_, fun a m => .inl m⟩
    · rw [upd_ne (fun z => hg (by rw [z]; exact List.mem_append_right _ hpO))]; exact e
    · rw [upd_ne (fun z => by rw [z, hp] at e; exact hnt vs (Option.some.inj e))]; exact e
  have hne : ∀ a ∈ P ++ S, a ≠ p := fun a m z => by
    subst z
    simp only [List.append_assoc, List.nodup_append] at nd
    rcases List.mem_append.mp m with m | m
    · exact nd.2.2 a m a (List.mem_append_left _ (by simp)) rfl
    · exact nd.2.1.2.2 a (by simp) a m rfl
  have q := h4 (upd H p o') (F ++ O) (some t') v [p] x (fun a m u e => by rw [upd_ne (hne a m)]; exact e) (fun t2 e => by cases e; exact r' _ x (List.mem_append_right _ hpO)) (fun e => nomatch e)
  have es : σ.set i (some v) = σ := by
    refine List.ext_getElem? fun j => ?_
    by_cases hj : i = j
    · subst hj
      rw [List.getElem?_set_self (List.getElem?_eq_some_iff.mp hv).1, hv]
    · rw [List.getElem?_set_ne hj]
  rw [es, ← h3] at q
  refine ⟨q, st.nd, st.dj, fun a m => ?_, fun a u e hm => ?_, st.own⟩
  · by_cases z : a = p
    · subst z; exact ⟨_, upd_same⟩
    · obtain ⟨u, e⟩ := st.trk a m
      exact ⟨u, by rw [upd_ne z]; exact e⟩
  · have : a ≠ p := fun z => by
      subst z
      rcases st.own a hpO with y | y
      · exact hm y
      · rw [y] at e; cases e
    rw [upd_ne this]
    exact st.keep a u e hm
/-- x.append(e) -/
def wApp (i : Nat) (w : WE) : WS := fun W Γ => ∃ xs0, Γ[i]? = some (some (.lst xs0)) ∧ w Γ fun t Γ1 => ∃ xs, Γ1[i]? = some (some (.lst xs)) ∧ xs.length < sizeLine ∧ W.nx (Γ1.set i (some (.lst (xs ++ [t.val]))))
theorem XS.app {i : Nat} {ho : Expr} (h : XE X e w) (hv : PE X ho (tVar i)) (hp : PE X ho (tVar i) → PE X e (LE X.K w) → PS X st (tDrop (tBM X.K "list" rAppend (tVar i) (tCons (LE X.K w) tNil)))) : XS X st (wApp i w) := by
  refine ⟨psW (hp hv h.pe) fun D σ H => ?_, fun W W' Γ l ⟨xs0, e0, q⟩ => ⟨xs0, e0, h.mono _ _ _ (fun t Γ1 ⟨xs, e1, l1, q1⟩ => ⟨xs, e1, l1, l.nx _ q1⟩) q⟩⟩
  rintro ⟨H0, M0, F, Γ, O, st, xs0, e0, hw⟩
  obtain ⟨v, P, O1, S, h1, h2, h3, _⟩ := st.rep.at e0
  obtain ⟨a, vs0, rfl, ha, _⟩ := h2.lstAt (ds := xs0) rfl
  refine ⟨.ref a, h1, .inl ⟨rfl, _, SqL.of ha⟩, H0, M0, F, Γ, O, st, h.mono _ _ _ (fun t Γ1 ⟨xs, e1, l1, q1⟩ y H1 Od O1' c fr r => ?_) hw⟩
  have rd := c.dropped st fr r
  have st1 := c.base.st
  obtain ⟨v1, P1, Oa, S1, g1, g2, g3, _⟩ := st1.rep.at e1
  rw [h1] at g1
  cases g1
  obtain ⟨a', vs, ea, ha', rs⟩ := g2.lstAt (ds := xs) rfl
  cases ea
  have gO : Oa = [a] := by cases g2; rfl
  subst gO
  refine ⟨a, vs, y, rfl, rfl, ha', by rw [← rs.length]; exact l1, ?_⟩
  have x := SOk.change st1 (t' := .lst (xs ++ [t.val])) (o' := .lst (vs ++ [y])) e1 h1 g2 ha' (fun _ z => nomatch z) (fun G xx _ => .lst upd_same ((rs.ext xx).append (.cons (rd.ext xx) .nil)))
  exact q1 σ _ _ x
end
end EV

set_option maxHeartbeats 4000000
/-! Ev, part F: stores by key, += , while, what is walked, for. -/
namespace EV
open PySem PySem.Spec L2

/-! ### tables -/
def putG {κ α : Type} [DecidableEq κ] (kvs : List (κ × α)) (k : κ) (v : α) : List (κ × α) :=
  if (kvs.any fun kv => decide (kv.1 = k)) = true then kvs.map (fun kv => if kv.1 = k then (kv.1, v) else kv) else kvs ++ [(k, v)]
section
variable {κ : Type} [DecidableEq κ] {K : PySem.W.Frag} {H : Hp} {G : List Addr}
theorem any_keys (k : κ) : ∀ {ds : List (κ × D)} {kvs : List (κ × V)}, ds.map (·.1) = kvs.map (·.1) → (ds.any fun kv => decide (kv.1 = k)) = kvs.any fun kv => decide (kv.1 = k)
  | [], [], _ => rfl
  | [], _ :: _, e => by simp at e
  | _ :: _, [], e => by simp at e
  | (a, d) :: ds, (b, v) :: kvs, e => by
    simp only [List.map_cons, List.cons.injEq] at e
    have e1 : a = b := e.1
    subst e1
    rw [List.any_cons, List.any_cons, any_keys k e.2]
theorem map_put_rep (k : κ) {d : D} {v : V} (r : Rep K H G d v) : ∀ {ds : List (κ × D)} {kvs : List (κ × V)}, ds.map (·.1) = kvs.map (·.1) → Reps K H G (ds.map (·.2)) (kvs.map (·.2)) →
    (ds.map fun kv => if kv.1 = k then (kv.1, d) else kv).map (·.1) = (kvs.map fun kv => if kv.1 = k then (kv.1, v) else kv).map (·.1) ∧ Reps K H G ((ds.map fun kv => if kv.1 = k then (kv.1, d) else kv).map (·.2)) ((kvs.map fun kv => if kv.1 = k then (kv.1, v) else kv).map (·.2))
  | [], [], _, _ => ⟨rfl, .nil⟩
  | [], _ :: _, e, _ => by simp at e
  | _ :: _, [], e, _ => by simp at e
  | (a, x) :: ds, (b, y) :: kvs, e, rs => by
    simp only [List.map_cons, List.cons.injEq] at e
    have e1 : a = b := e.1
    subst e1
    simp only [List.map_cons] at rs
    cases rs with
    | cons h t =>
      obtain ⟨i1, i2⟩ := map_put_rep k r e.2 t
      simp only [List.map_cons]
      by_cases q : a = k
      · simp only [if_pos q]
        exact ⟨by rw [i1], .cons r i2⟩
      · simp only [if_neg q]
        exact ⟨by rw [i1], .cons h i2⟩
theorem putG_rep (k : κ) {d : D} {v : V} (r : Rep K H G d v) {ds : List (κ × D)} {kvs : List (κ × V)} (e : ds.map (·.1) = kvs.map (·.1)) (rs : Reps K H G (ds.map (·.2)) (kvs.map (·.2))) :
    (putG ds k d).map (·.1) = (putK kvs k v).map (·.1) ∧ Reps K H G ((putG ds k d).map (·.2)) ((putK kvs k v).map (·.2)) := by
  unfold putG putK
  rw [any_keys k e]
  by_cases q : (kvs.any fun kv => decide (kv.1 = k)) = true
  · rw [if_pos q, if_pos q]
    exact map_put_rep k r e rs
  · rw [if_neg q, if_neg q]
    simp only [List.map_append, List.map_cons, List.map_nil]
    exact ⟨by rw [e], rs.append (.cons r .nil)⟩
end
section
variable {X : Cx} {a b c e : Expr} {es : List Expr} {wa wb wc w : WE} {wr : WA} {tc : WT} {pos : Pos} {st : Stmt} {rest b1 b2 : List Stmt} {u v : WS}
def rPutD : TSet := fun o i v H Q => ∃ a H', o = .ref a ∧ DPut H a i v H' ∧ Q H'
theorem set_dict (hu : X.A.units + 1 < cLine) : PSet X rPutD := by
  intro pins s σ H o i v ov iv u Q I ro ri rv h
  obtain ⟨a, H', rfl, p, q⟩ := h
  obtain rfl : ov = Value.ref a := ro
  exact d_setItem hu I p ri rv fun s' I' => ⟨H', I', q⟩
theorem PSet.or {t t' : TSet} (h : PSet X t) (h' : PSet X t') : PSet X (fun o i v H Q => t o i v H Q ∨ t' o i v H Q) := fun pins s σ H o i v ov iv u Q I ro ri rv q =>
  q.elim (h pins s σ H o i v ov iv u Q I ro ri rv) (h' pins s σ H o i v ov iv u Q I ro ri rv)
/-- o[k] = d where a slot holds o -/
def putD (t tk : OT) (d : D) (t' : OT) : Prop :=
  (∃ (ds : List (Key × D)) (k : Key), t = .dK ds ∧ tk = .sh (keyD k) ∧ ds.length < sizeLine ∧ t' = .dK (putG ds k d)) ∨
  (∃ (ds : List (List Key × D)) (ks : List Key), t = .dT ds ∧ tk = .sh (.tup (ks.map keyD)) ∧ ds.length < sizeLine ∧ t' = .dT (putG ds ks d)) ∨
  ∃ (ds : List D) (i : Int) (j : Nat), t = .lst ds ∧ tk = .sh (.int i) ∧ ixN ds.length i = some j ∧ t' = .lst (ds.set j d)
def rPutA : TSet := fun o i v H Q => rPutD o i v H Q ∨ rSetL o i v H Q
def wPut (i : Nat) (wk we : WE) : WS := fun W Γ => we Γ fun tv Γ1 => (∃ t0, Γ1[i]? = some (some t0)) ∧ wk Γ1 fun tk Γ2 => ∃ t t', Γ2[i]? = some (some t) ∧ putD t tk tv.val t' ∧ W.nx (Γ2.set i (some t'))
theorem keys_len {κ : Type} {ds : List (κ × D)} {kvs : List (κ × V)} (e : ds.map (·.1) = kvs.map (·.1)) : ds.length = kvs.length := by
  have := congrArg List.length e
  simpa using this
theorem XS.put {i : Nat} {ho k : Expr} {wk : WE} (h : XE X e w) (hk : XU X k wk) (hv : PE X ho (tVar i)) (hp : PE X e (LE X.K w) → PE X ho (tVar i) → PE X k (LU X.K wk) → PS X st (tAsg (LE X.K w) (gSub (tVar i) (LU X.K wk) rPutA))) : XS X st (wPut i wk w) := by
  refine ⟨psW (hp h.pe hv hk.pe) fun D σ H => ?_, fun W W' Γ l q => h.mono _ _ _ (fun tv Γ1 ⟨h0, q1⟩ => ⟨h0, hk.mono _ _ _ (fun tk Γ2 ⟨t, t', e1, e2, q2⟩ => ⟨t, t', e1, e2, l.nx _ q2⟩) q1⟩) q⟩
  rintro ⟨H0, M0, F, Γ, O, st, hw⟩
  refine ⟨H0, M0, F, Γ, O, st, h.mono _ _ _ (fun tv Γ1 ⟨⟨t0, e0⟩, q1⟩ v H1 Od O1 c fr r => ?_) hw⟩
  have rd := c.dropped st fr r
  have cb := c.base
  obtain ⟨vo, P0, Oo, S0, g1, g2, g3, _⟩ := cb.st.rep.at e0
  refine ⟨vo, g1, H0, M0, F, Γ1, O1, cb.st, hk.mono _ _ _ (fun tk Γ2 ⟨t, t', e1, e2, q2⟩ vk H2 F2 Bk O2 c2 rk => ?_) q1⟩
  have c2b := c2.base
  have rd2 := rd.ext c2b.ext
  have st2 := c2b.st
  obtain ⟨vo', P, Oo', S, k1, k2, k3, _⟩ := st2.rep.at e1
  have k1' := k1
  rw [g1] at k1'
  cases k1'
  rcases e2 with ⟨ds, kk, rfl, rfl, l, rfl⟩ | ⟨ds, ks, rfl, rfl, l, rfl⟩ | ⟨ds, ii, j, rfl, rfl, l, rfl⟩
  · cases k2 with
    | dK ha ek rs =>
      have ev : vk = kV kk := by cases rk with | sh z => exact z.key
      subst ev
      obtain ⟨p1, p2⟩ := putG_rep kk rd2 ek rs
      refine .inl ⟨_, _, rfl, .k ha (by rw [← keys_len ek]; exact l), ?_⟩
      exact q2 σ _ _ (st2.change e1 k1 (.dK ha ek rs) ha (fun _ z => nomatch z) fun G xx _ => .dK upd_same p1 (p2.ext xx))
  · cases k2 with
    | dT ha ek rs =>
      cases rk with
      | sh z =>
        cases z with
        | tup hb qk =>
          obtain ⟨p1, p2⟩ := putG_rep ks rd2 ek rs
          refine .inl ⟨_, _, rfl, .t ha (by rw [hb, qk.keys]) (by rw [← keys_len ek]; exact l), ?_⟩
          exact q2 σ _ _ (st2.change e1 k1 (.dT ha ek rs) ha (fun _ z => nomatch z) fun G xx _ => .dT upd_same p1 (p2.ext xx))
  · cases k2 with
    | lst ha rs =>
      refine .inr ⟨_, _, ii, j, rfl, rk.int, ha, by rw [← rs.length]; exact l, ?_⟩
      exact q2 σ _ _ (st2.change e1 k1 (.lst ha rs) ha (fun _ z => nomatch z) fun G xx _ => .lst upd_same (Reps.set (rd2.ext xx) j (rs.ext xx)))
/-- x += e, ints -/
def wAugI (i : Nat) (f : Int → Int → Int) (w : WE) : WS := fun W Γ => ∃ x, Γ[i]? = some (some (.sh (.int x))) ∧ w Γ fun t Γ1 => ∃ y, t = .sh (.int y) ∧ i < Γ1.length ∧ W.nx (Γ1.set i (some (.sh (.int (f x y)))))
theorem XS.augI {i : Nat} {f : Int → Int → Int} (h : XU X e w) (hp : PE X e (LU X.K w) → PS X st (tAug i (LU X.K w) (ipI f))) : XS X st (wAugI i f w) := by
  refine ⟨psW (hp h.pe) fun D σ H => ?_, fun W W' Γ l ⟨x, e, q⟩ => ⟨x, e, h.mono _ _ _ (fun t Γ1 ⟨y, e1, hi, q1⟩ => ⟨y, e1, hi, l.nx _ q1⟩) q⟩⟩
  rintro ⟨H0, M0, F, Γ, O, st, x, ex, hw⟩
  obtain ⟨v, P, O1, S, h1, h2, h3, _⟩ := st.rep.at ex
  obtain rfl := h2.int
  refine ⟨_, h1, H0, M0, F, Γ, O, st, h.mono _ _ _ (fun t Γ1 ⟨y, e1, hi, q1⟩ v H1 F1 B1 O1 c r => ?_) hw⟩
  subst e1
  obtain ⟨O', st', _⟩ := c.base.st.put (.int (f x y)) hi
  exact ⟨x, y, rfl, r.int, q1 _ _ O' st'⟩
/-! ### while -/
def wWhile (t : WT) (u : WS) : WS := fun W Γ => ∃ I : Nat → Env' → Prop, (∃ m, I m Γ) ∧ ∀ m Γ, I m Γ → t Γ fun k Γ1 => if k = true then u { nx := fun Γ2 => ∃ m', m' < m ∧ I m' Γ2, rt := W.rt, bk := W.nx, ct := fun Γ2 => ∃ m', m' < m ∧ I m' Γ2 } Γ1 else W.nx Γ1
theorem XS.whiles (hpo : PassesOwn (model X.prog X.w) X.A X.env X.xe) (hc : XT X c tc) (h : XSs X b1 u) : XS X (.While c b1 [] pos) (wWhile tc u) := by
  refine ⟨psW (ps_while hpo hc.pt h.ps) fun D σ H => ?_, fun W W' Γ l ⟨I, i0, q⟩ => ⟨I, i0, fun m Γ1 im => hc.mono _ _ _ (fun k Γ2 q2 => by
    cases k with
    | true => exact h.mono { nx := fun Γ2 => ∃ m', m' < m ∧ I m' Γ2, rt := W.rt, bk := W.nx, ct := fun Γ2 => ∃ m', m' < m ∧ I m' Γ2 } _ _ ⟨fun _ z => z, l.rt, l.nx, fun _ z => z⟩ q2
    | false => exact l.nx _ q2) (q m Γ1 im)⟩⟩
  rintro ⟨H0, M0, F, Γ, O, st, I, ⟨m0, i0⟩, turn⟩
  refine ⟨fun m σ H => ∃ Γ O, SOk X.K H0 M0 F Γ σ H O ∧ I m Γ, ⟨m0, Γ, O, st, i0⟩, ?_⟩
  rintro m σ1 H1 ⟨Γ1, O1, st1, i1⟩
  refine ⟨H0, M0, F, Γ1, O1, st1, hc.mono _ _ _ (fun k Γ2 q2 H2 O2 c2 => ?_) (turn m Γ1 i1)⟩
  cases k with
  | false => exact q2 _ _ _ c2.st
  | true =>
    refine ⟨fun σ' H' => ∃ m', m' < m ∧ ∃ Γ O, SOk X.K H0 M0 F Γ σ' H' O ∧ I m' Γ, fun σ' H' ⟨m', lm, q⟩ => ⟨m', lm, q⟩, ?_⟩
    have st2 := c2.st
    exact ⟨H0, M0, F, Γ2, O2, st2, h.mono { nx := fun Γ2 => ∃ m', m' < m ∧ I m' Γ2, rt := (liftW X.K H0 M0 F D).rt, bk := (liftW X.K H0 M0 F D).nx, ct := fun Γ2 => ∃ m', m' < m ∧ I m' Γ2 } _ _ ⟨fun Γ3 ⟨m', lm, i3⟩ σ' H' O' st' => ⟨m', lm, Γ3, O', st', i3⟩, fun _ z => z, fun _ z => z, fun Γ3 ⟨m', lm, i3⟩ σ' H' O' st' => ⟨m', lm, Γ3, O', st', i3⟩⟩ q2⟩
end
/-! ### what is walked -/
structure Later (G : List Addr) (H : Hp) (G1 : List Addr) (H1 : Hp) : Prop where
  keep : ∀ a o, a ∉ G → H a = some o → H1 a = some o
  tups : ∀ a vs, H a = some (.tup vs) → H1 a = some (.tup vs)
  own : ∀ a, a ∈ G1 → a ∈ G ∨ H a = none
theorem Later.ext {G G1 : List Addr} {H H1 : Hp} (l : Later G H G1 H1) : Ext G H G1 H1 := ⟨fun a o h e => ⟨o, l.keep a o h e, .inl rfl⟩, l.tups, l.own⟩
theorem Later.refl {G : List Addr} {H : Hp} : Later G H G H := ⟨fun _ _ _ e => e, fun _ _ e => e, fun _ m => .inl m⟩
def IterOk (K : PySem.W.Frag) (J : It) (G : List Addr) (H : Hp) (ds : List D) : Prop :=
  ∀ G1 H1, Later G H G1 H1 → (∀ i, i < ds.length → J.go i H1) ∧ J.stop ds.length H1 ∧ ∀ i x H2 d, ds[i]? = some d → J.yld i H1 x H2 → (∀ a o, H1 a = some o → H2 a = some o) ∧ Rep K H2 G1 d x
def LI (K : PySem.W.Frag) (wi : WA) : TI := fun σ H R => ∃ H0 M0 F Γ O, SOk K H0 M0 F Γ σ H O ∧ wi Γ fun ds Γ' => ∀ J H' O', Chn K H0 M0 F σ H O Γ' H' F O' → IterOk K J (F ++ O') H' ds → R J H'
structure XI (X : Cx) (tg iter : Expr) (wi : WA) : Prop where
  pi : PI X tg iter (LI X.K wi)
  mono : MonoA wi
section
variable {X : Cx} {a b c e tg iter : Expr} {es : List Expr} {wa wb wc w : WE} {wr wi : WA} {tc : WT} {pos : Pos} {st : Stmt} {rest b1 b2 : List Stmt} {u v : WS}
theorem piW {t t' : TI} (h : PI X tg iter t) (i : ∀ σ H Q, t' σ H Q → t σ H Q) : PI X tg iter t' := ⟨fun pins s σ H Q I q => h.run pins s σ H Q I (i σ H Q q)⟩
/-- a list, a tuple, a text, as it comes -/
def iAny (K : PySem.W.Frag) (te : TE) : TI := fun σ H R => te σ H fun x H1 => (∃ a, x = .ref a ∧ (∃ xs, SqL K H1 a xs) ∧ R (Itl K a) H1) ∨ (∃ a, x = .ref a ∧ (∃ xs, SqT K H1 a xs) ∧ R (Itt K a) H1) ∨ ∃ z, x = .str z ∧ R (Its z) H1
theorem pi_any {te : TE} (he : PE X e te) : PI X tg e (iAny X.K te) := by
  refine ⟨fun pins s σ H R I h => thn (he.run pins s σ H _ I h) fun v s1 q0 => ?_⟩
  obtain ⟨x, H1, I1, r1, q⟩ := q0
  have fresh : FpOk X pins H1 s1.heap.objs.size := I1.fpOk (Nat.le_refl _) (I1.hok.fresh (Nat.le_refl _))
  rcases q with ⟨a, rfl, ⟨xs, hq⟩, q⟩ | ⟨a, rfl, ⟨xs, hq⟩, q⟩ | ⟨z, rfl, q⟩
  · obtain rfl : v = Value.ref a := r1
    obtain ⟨its, _, pl, _⟩ := I1.list hq
    exact wpAny_pyIter_list pl.isList (pi_one (tk := s1.toks) I1 _ (turn_list a _) ⟨_, Heap.get?_push_size _ rfl, rfl, rfl⟩ q)
  · obtain rfl : v = Value.ref a := r1
    obtain ⟨its, _, pt, _⟩ := I1.tuple hq
    exact wpAny_pyIter_tuple (show s1.heap.IsTuple a its.toArray from pt) (pi_one (tk := s1.toks) I1 _ (turn_tuple a _) ⟨_, Heap.get?_push_size _ rfl, rfl, rfl⟩ q)
  · obtain ⟨t, rfl⟩ := r1
    cases ha : z.cps.all (· < 128)
    · exact wpAny_pyIter_wide ha (pi_one (tk := s1.toks) I1 _ (turn_str _ z t "str_iterator" (.inr rfl)) ⟨_, Heap.get?_push_size _ rfl, rfl, rfl⟩ q)
    · exact wpAny_pyIter_ascii ha (pi_one (tk := s1.toks) I1 _ (turn_str _ z t "str_ascii_iterator" (.inl rfl)) ⟨_, Heap.get?_push_size _ rfl, rfl, rfl⟩ q)

theorem Later.sqL {K : PySem.W.Frag} {G G1 : List Addr} {H H1 : Hp} {p : Addr} {vs : List V} (l : Later G H G1 H1) (h : (Rd H p (.lst vs) ∧ p ∉ G) ∨ StaticL K p vs) : SqL K H1 p vs := by
  rcases h with ⟨h | ⟨o, h⟩, hg⟩ | h
  · exact .inl (.inl (l.keep _ _ hg h))
  · exact .inl (.inr ⟨o, l.keep _ _ hg h⟩)
  · exact .inr h
theorem sqL_of {K : PySem.W.Frag} {G : List Addr} {H : Hp} {p : Addr} {vs : List V} (h : (Rd H p (.lst vs) ∧ p ∉ G) ∨ StaticL K p vs) : SqL K H p vs := (Later.refl (G := G) (H := H)).sqL h
theorem iter_lst {K : PySem.W.Frag} {G : List Addr} {H : Hp} {p : Addr} {vs : List V} {ds : List D} (h : (Rd H p (.lst vs) ∧ p ∉ G) ∨ StaticL K p vs) (r : Reps K H G ds vs) : IterOk K (Itl K p) G H ds := by
  intro G1 H1 l
  have q := l.sqL h
  have hl := r.length
  refine ⟨fun i hi => ?_, ⟨vs, q, by omega⟩, fun i x H2 d hd y => ?_⟩
  · have : i < vs.length := by omega
    exact ⟨vs, vs[i], q, by simp [this]⟩
  · obtain ⟨rfl, y⟩ := y
    obtain ⟨v, ev, rv⟩ := r.get hd
    have e := y vs q
    rw [ev] at e
    cases e
    exact ⟨fun _ _ e => e, rv.ext l.ext⟩
theorem iter_tup {K : PySem.W.Frag} {G : List Addr} {H : Hp} {p : Addr} {vs : List V} {ds : List D} (h : H p = some (.tup vs) ∨ StaticT K p vs) (r : Reps K H G ds vs) : IterOk K (Itt K p) G H ds := by
  intro G1 H1 l
  have q : SqT K H1 p vs := h.elim (fun z => .inl (.inl (l.tups _ _ z))) .inr
  have hl := r.length
  refine ⟨fun i hi => ?_, ⟨vs, q, by omega⟩, fun i x H2 d hd y => ?_⟩
  · have : i < vs.length := by omega
    exact ⟨vs, vs[i], q, by simp [this]⟩
  · obtain ⟨rfl, y⟩ := y
    obtain ⟨v, ev, rv⟩ := r.get hd
    have e := y vs q
    rw [ev] at e
    cases e
    exact ⟨fun _ _ e => e, rv.ext l.ext⟩
def signs (z : Str) : List D := z.cps.toList.map fun c => .str ⟨#[c]⟩
theorem iter_str {K : PySem.W.Frag} {G : List Addr} {H : Hp} (z : Str) : IterOk K (Its z) G H (signs z) := by
  intro G1 H1 l
  have hl : (signs z).length = z.cps.size := by simp [signs]
  refine ⟨fun i hi => by rw [hl] at hi; exact hi, by rw [hl]; exact Nat.le_refl _, fun i x H2 d hd y => ?_⟩
  obtain ⟨rfl, c, hc, rfl⟩ := y
  have : d = .str ⟨#[c]⟩ := by
    unfold signs at hd
    rw [List.getElem?_map, Array.getElem?_toList, hc] at hd
    exact (Option.some.inj hd).symm
  subst this
  exact ⟨fun _ _ e => e, .str _⟩
def D.items : D → Option (List D)
  | .lst xs => some xs
  | .fz xs => some xs
  | .tup xs => some xs
  | .stc xs => some xs
  | .str z => some (signs z)
  | _ => none
theorem Rep.walk {K : PySem.W.Frag} {G : List Addr} {H : Hp} {d : D} {v : V} {ds : List D} {R : It → Hp → Prop} (r : Rep K H G d v) (e : d.items = some ds) (h : ∀ J, IterOk K J G H ds → R J H) :
    (∃ a, v = .ref a ∧ (∃ xs, SqL K H a xs) ∧ R (Itl K a) H) ∨ (∃ a, v = .ref a ∧ (∃ xs, SqT K H a xs) ∧ R (Itt K a) H) ∨ ∃ z, v = .str z ∧ R (Its z) H := by
  cases r with
  | str z => cases e; exact .inr (.inr ⟨z, rfl, h _ (iter_str z)⟩)
  | tup h1 h2 => cases e; exact .inr (.inl ⟨_, rfl, ⟨_, .inl (.inl h1)⟩, h _ (iter_tup (.inl h1) h2)⟩)
  | tupK h1 h2 => cases e; exact .inr (.inl ⟨_, rfl, ⟨_, .inr h1⟩, h _ (iter_tup (.inr h1) h2)⟩)
  | lst h1 h2 h3 => cases e; exact .inl ⟨_, rfl, ⟨_, .inl (.inl h1)⟩, h _ (iter_lst (.inl ⟨.inl h1, h2⟩) h3)⟩
  | fz h1 h3 => cases e; exact .inl ⟨_, rfl, ⟨_, sqL_of h1⟩, h _ (iter_lst h1 h3)⟩
  | _ => cases e
def wiAny (w : WE) : WA := fun Γ R => w Γ fun t Γ1 => ∃ ds, t.val.items = some ds ∧ R ds Γ1
theorem XI.any (h : XE X iter w) : XI X tg iter (wiAny w) := by
  refine ⟨piW (pi_any h.pe) fun σ H R => ?_, fun Γ P P' i q => h.mono _ _ _ (fun t Γ1 ⟨ds, e, q1⟩ => ⟨ds, e, i _ _ q1⟩) q⟩
  rintro ⟨H0, M0, F, Γ, O, st, hw⟩
  refine ⟨H0, M0, F, Γ, O, st, h.mono _ _ _ (fun t Γ1 ⟨ds, e, q1⟩ v H1 Od O1 c fr r => ?_) hw⟩
  exact (c.dropped st fr r).walk e fun J hJ => q1 J H1 O1 c.base hJ
def rangeD (lo : Int) (n : Nat) : List D := (List.range n).map fun i => .int (lo + (i : Nat))
theorem iter_range {K : PySem.W.Frag} {G : List Addr} {H : Hp} (lo : Int) (n : Nat) : IterOk K (Itr lo n) G H (rangeD lo n) := by
  intro G1 H1 l
  have hl : (rangeD lo n).length = n := by simp [rangeD]
  refine ⟨fun i hi => by rw [hl] at hi; exact hi, by rw [hl]; exact Nat.le_refl _, fun i x H2 d hd y => ?_⟩
  obtain ⟨rfl, rfl⟩ := y
  unfold rangeD at hd
  rw [List.getElem?_map] at hd
  obtain ⟨j, hj, rfl⟩ := Option.map_eq_some_iff.mp hd
  have : j = i := by
    have hlt : i < n := by simpa using (List.getElem?_eq_some_iff.mp hj).1
    rw [List.getElem?_range hlt] at hj
    exact (Option.some.inj hj).symm
  subst this
  exact ⟨fun _ _ e => e, .int _⟩
def wiRange1 (w : WE) : WA := fun Γ R => w Γ fun t Γ1 => ∃ n, t = .sh (.int n) ∧ -(2 ^ 62) ≤ n ∧ n < 2 ^ 62 ∧ R (rangeD 0 n.toNat) Γ1
theorem XI.range1 {p : Pos} (hg : Gl X "range") (hm : X.mg "range" = none) (h : XU X a w) (hs : starEach [a] X.env = [(false, eval a X.env)] := by rfl) : XI X tg (.Call (.Name "range" p) [a] [] pos) (wiRange1 w) := by
  refine ⟨piW (pi_range1 hg hm (pa_cons h.pe pa_nil hs) hs) fun σ H R => ?_, fun Γ P P' i q => h.mono _ _ _ (fun t Γ1 ⟨n, e, l1, l2, q1⟩ => ⟨n, e, l1, l2, i _ _ q1⟩) q⟩
  rintro ⟨H0, M0, F, Γ, O, st, hw⟩
  refine ⟨H0, M0, F, Γ, O, st, h.mono _ _ _ (fun t Γ1 ⟨n, e, l1, l2, q1⟩ v H1 F1 B1 O1 c r => ?_) hw⟩
  subst e
  exact ⟨n, by rw [r.int], l1, l2, q1 _ H1 O1 c.base (iter_range 0 _)⟩
def wiRange2 (wa wb : WE) : WA := fun Γ R => wa Γ fun t Γ1 => wb Γ1 fun t2 Γ2 => ∃ i j, t = .sh (.int i) ∧ t2 = .sh (.int j) ∧ (-(2 ^ 62) ≤ i ∧ i < 2 ^ 62 ∧ -(2 ^ 62) ≤ j ∧ j < 2 ^ 62) ∧ R (rangeD i (j - i).toNat) Γ2
theorem XI.range2 {p : Pos} (hg : Gl X "range") (hm : X.mg "range" = none) (h : XU X a wa) (h' : XU X b wb) (hs : starEach [a, b] X.env = [(false, eval a X.env), (false, eval b X.env)] := by rfl) (hs2 : starEach [b] X.env = [(false, eval b X.env)] := by rfl) : XI X tg (.Call (.Name "range" p) [a, b] [] pos) (wiRange2 wa wb) := by
  refine ⟨piW (pi_range2 hg hm (pa_cons h.pe (pa_cons h'.pe pa_nil hs2) (by rw [hs, hs2])) hs hs2) fun σ H R => ?_, fun Γ P P' i q => h.mono _ _ _ (fun t Γ1 q1 => h'.mono _ _ _ (fun t2 Γ2 ⟨n, m, e, e2, l1, q2⟩ => ⟨n, m, e, e2, l1, i _ _ q2⟩) q1) q⟩
  rintro ⟨H0, M0, F, Γ, O, st, hw⟩
  refine ⟨H0, M0, F, Γ, O, st, h.mono _ _ _ (fun t Γ1 q1 v H1 F1 B1 O1 c r => ?_) hw⟩
  refine ⟨H0, M0, F1, Γ1, O1, c.st, h'.mono _ _ _ (fun t2 Γ2 ⟨n, m, e, e2, l1, q2⟩ v2 H2 F2 B2 O2 c2 r2 => ?_) q1⟩
  subst e e2
  exact ⟨n, m, by rw [r.int, r2.int], l1, q2 _ H2 O2 (c.trans c2).base (iter_range n _)⟩
/-! ### for -/
def wLoop (g : WG) (b : WS) (W : WEnds) : List D → Env' → Prop
  | [], Γ => W.nx Γ
  | d :: ds, Γ => g (.sh d) Γ fun Γ1 => b { nx := wLoop g b W ds, rt := W.rt, bk := W.nx, ct := wLoop g b W ds } Γ1
def wFor (wi : WA) (g : WG) (b : WS) : WS := fun W Γ => wi Γ fun ds Γ1 => wLoop g b W ds Γ1
theorem wLoop_mono {g : WG} {b : WS} (hg : ∀ t Γ (P P' : Env' → Prop), (∀ Γ', P Γ' → P' Γ') → g t Γ P → g t Γ P') (hb : MonoS b) {W W' : WEnds} (l : W.Le W') : ∀ ds Γ, wLoop g b W ds Γ → wLoop g b W' ds Γ
  | [], Γ, q => l.nx _ q
  | d :: ds, Γ, q => hg _ _ _ _ (fun Γ1 q1 => hb { nx := wLoop g b W ds, rt := W.rt, bk := W.nx, ct := wLoop g b W ds } _ _ ⟨fun Γ2 q2 => wLoop_mono hg hb l ds Γ2 q2, l.rt, l.nx, fun Γ2 q2 => wLoop_mono hg hb l ds Γ2 q2⟩ q1) q
theorem RepE.notup {K : PySem.W.Frag} {H : Hp} {G : List Addr} : ∀ {Γ : Env'} {σ : St} {O : List Addr}, RepE K H G Γ σ O → ∀ a ∈ O, ∀ vs, H a ≠ some (.tup vs)
  | _, _, _, .nil, _, m, _ => by cases m
  | _, _, _, .cs h t, a, m, vs => by
    rcases List.mem_append.mp m with m | m
    · cases h with
      | sh _ => cases m
      | lst h1 _ => simp at m; subst m; rw [h1]; exact fun z => nomatch z
      | dK h1 _ _ => simp at m; subst m; rw [h1]; exact fun z => nomatch z
      | dT h1 _ _ => simp at m; subst m; rw [h1]; exact fun z => nomatch z
      | ins h1 _ _ => simp at m; subst m; rw [h1]; exact fun z => nomatch z
    · exact RepE.notup t a m vs
  | _, _, _, .cn t, a, m, vs => RepE.notup t a m vs
/-- a state as its own beginning -/
theorem SOk.here {K : PySem.W.Frag} {H0 : Hp} {M0 F : List Addr} {Γ : Env'} {σ : St} {H : Hp} {O : List Addr} (st : SOk K H0 M0 F Γ σ H O) : SOk K H O F Γ σ H O := ⟨st.rep, st.nd, st.dj, st.trk, fun _ _ e _ => e, fun _ m => .inl m⟩
/-- .. and back -/
theorem SOk.back {K : PySem.W.Frag} {H0 : Hp} {M0 F : List Addr} {Γ Γ' : Env'} {σ σ' : St} {H H' : Hp} {O O' : List Addr} (st : SOk K H0 M0 F Γ σ H O) (s' : SOk K H O F Γ' σ' H' O') : SOk K H0 M0 F Γ' σ' H' O' := by
  refine ⟨s'.rep, s'.nd, s'.dj, s'.trk, fun a o e m => s'.keep a o (st.keep a o e m) fun z => ?_, fun a m => st.later (s'.own a m)⟩
  rcases st.own a z with y | y
  · exact m y
  · rw [y] at e; cases e
theorem RtPost.back {K : PySem.W.Frag} {H0 : Hp} {M0 F : List Addr} {Γ : Env'} {σ : St} {H H' : Hp} {O Od : List Addr} {t : OT} {v : V} (st : SOk K H0 M0 F Γ σ H O) (p : RtPost K H O F t v H' Od) : RtPost K H0 M0 F t v H' Od := by
  refine ⟨p.rep, p.dj, p.trk, fun a o e m => p.keep a o (st.keep a o e m) fun z => ?_, fun a m => st.later (p.own a m)⟩
  rcases st.own a z with y | y
  · exact m y
  · rw [y] at e; cases e
theorem SOk.later' {K : PySem.W.Frag} {F : List Addr} {Γ : Env'} {σ : St} {H H' : Hp} {O O' : List Addr} {Γ0 : Env'} {σ0 : St} (s0 : SOk K H O F Γ0 σ0 H O) (s' : SOk K H O F Γ σ H' O') : Later (F ++ O) H (F ++ O') H' := by
  refine ⟨fun a o hg e => s'.keep a o e fun z => hg (List.mem_append_right _ z), fun a vs e => s'.keep a _ e fun z => s0.rep.notup a z vs e, fun a m => ?_⟩
  rcases List.mem_append.mp m with m | m
  · exact .inl (List.mem_append_left _ m)
  · exact (s'.own a m).imp (List.mem_append_right _) id
/-- the loop itself, from a state at which the iterator stands -/
theorem loop_ok {g : WG} {js : List Nat} {K : PySem.W.Frag} (eK : K = X.K) (hgm : ∀ t Γ (P P' : Env' → Prop), (∀ Γ', P Γ' → P' Γ') → g t Γ P → g t Γ P') (hb : MonoS u) {J : It} {F : List Addr} {Γ0 : Env'} {σ0 : St} {H : Hp} {O : List Addr} (s0 : SOk K H O F Γ0 σ0 H O) {ds : List D} (hJ : IterOk K J (F ++ O) H ds) (D : Ends)
    (q : wLoop g u (liftW K H O F D) ds Γ0) : ∃ W : Nat → Nat → St → Hp → Prop, (∃ m, W 0 m σ0 H) ∧ ∀ i m σ H, W i m σ H →
      (J.stop i H ∧ D.nx σ H) ∨ (J.go i H ∧ ∃ N : St → Hp → Prop, (∀ σ' H', N σ' H' → ∃ m', m' < m ∧ W (i + 1) m' σ' H') ∧ ∀ x H', J.yld i H x H' → LG K g js x σ H' fun σ2 H2 => LS K u { D with nx := N, ct := N, bk := D.nx } σ2 H2) := by
  subst eK
  refine ⟨fun i m σ H' => m = ds.length - i ∧ i ≤ ds.length ∧ ∃ Γ O', SOk X.K H O F Γ σ H' O' ∧ wLoop g u (liftW X.K H O F D) (ds.drop i) Γ, ⟨ds.length, by simp, Nat.zero_le _, Γ0, O, s0, by simpa using q⟩, ?_⟩
  rintro i m σ1 H1 ⟨rfl, hi, Γ1, O1, st1, q1⟩
  obtain ⟨go, stop, yl⟩ := hJ (F ++ O1) H1 (s0.later' st1)
  by_cases hlt : i < ds.length
  · obtain ⟨d, hd⟩ : ∃ d, ds[i]? = some d := ⟨ds[i], by simp [hlt]⟩
    have ed : ds.drop i = d :: ds.drop (i + 1) := by
      rw [List.drop_eq_getElem_cons hlt]
      have : ds[i] = d := by simpa [hlt] using hd
      rw [this]
    rw [ed] at q1
    refine .inr ⟨go i hlt, fun σ' H' => ∃ Γ O', SOk X.K H O F Γ σ' H' O' ∧ wLoop g u (liftW X.K H O F D) (ds.drop (i + 1)) Γ, fun σ' H' ⟨Γ, O', st', q'⟩ => ⟨ds.length - (i + 1), by omega, rfl, hlt, Γ, O', st', q'⟩, fun x H2 y => ?_⟩
    obtain ⟨same, rx⟩ := yl i x H2 d hd y
    have x2 : Ext (F ++ O1) H1 (F ++ O1) H2 := .of_same same fun a m => .inl m
    have st2 : SOk X.K H O F Γ1 σ1 H2 O1 := ⟨st1.rep.ext x2 fun a _ o e => same a o e, st1.nd, st1.dj, fun a m => (st1.trk a m).imp fun o e => same a o e, fun a o e m => same a o (st1.keep a o e m), st1.own⟩
    refine ⟨H, O, F, Γ1, O1, .sh d, [], st2.nilF, fun _ m => (nomatch m), List.nodup_nil, fun _ m => (nomatch m), .sh (by simpa using rx), hgm _ _ _ _ (fun Γ3 q3 σ3 O3 st3 _ _ => ?_) q1⟩
    refine ⟨H, O, F, Γ3, O3, st3, hb { nx := wLoop g u (liftW X.K H O F D) (ds.drop (i + 1)), rt := (liftW X.K H O F D).rt, bk := (liftW X.K H O F D).nx, ct := wLoop g u (liftW X.K H O F D) (ds.drop (i + 1)) } _ _ ⟨fun Γ4 q4 σ' H' O' st' => ⟨Γ4, O', st', q4⟩, fun _ z => z, fun _ z => z, fun Γ4 q4 σ' H' O' st' => ⟨Γ4, O', st', q4⟩⟩ q3⟩
  · have e : i = ds.length := by omega
    subst e
    rw [List.drop_length] at q1
    exact .inl ⟨stop, q1 σ1 H1 O1 st1⟩
theorem liftW_back {K : PySem.W.Frag} {H0 : Hp} {M0 F : List Addr} {Γ : Env'} {σ : St} {H : Hp} {O : List Addr} (st : SOk K H0 M0 F Γ σ H O) (D : Ends) : (liftW K H0 M0 F D).Le (liftW K H O F D) :=
  ⟨fun Γ q σ' H' O' s' => q σ' H' O' (st.back s'), fun t q v H' Od p => q v H' Od (p.back st), fun Γ q σ' H' O' s' => q σ' H' O' (st.back s'), fun Γ q σ' H' O' s' => q σ' H' O' (st.back s')⟩
theorem XS.fors {g : WG} {js : List Nat} (hpo : PassesOwn (model X.prog X.w) X.A X.env X.xe) (hc : X.calm = true) (hi : XI X tg iter wi) (hg : XG X tg g js) (hb : XSs X b1 u) (hs : ∀ x, foldedSetIterable iter X.env x = pure x) : XS X (.For tg iter b1 [] pos) (wFor wi g u) := by
  refine ⟨psW (ps_for hpo hc hi.pi hg.pg hb.ps hs) fun D σ H => ?_, fun W W' Γ l q => hi.mono _ _ _ (fun ds Γ1 q1 => wLoop_mono hg.mono hb.mono l ds Γ1 q1) q⟩
  rintro ⟨H0, M0, F, Γ, O, st, hw⟩
  refine ⟨H0, M0, F, Γ, O, st, hi.mono _ _ _ (fun ds Γ1 q1 J H1 O1 c hJ => ?_) hw⟩
  exact loop_ok rfl hg.mono hb.mono c.st.here hJ D (wLoop_mono hg.mono hb.mono (liftW_back c.st D) ds Γ1 q1)
end
end EV

set_option maxHeartbeats 4000000
/-! Ev, part G0: dicts whose keys are tuples: a display of one pair, a comprehension (after the layer's own for ints and texts). -/
namespace EV
open PySem PySem.Spec PyProof.Rows L2

section
variable {X : Cx}
/-- d[key tuple] = v on the dict's own object -/
theorem t_dictSet {pins : List (Addr × Obj)} {σ : L2.St} {H : Hp} {s : Shared} {E : Value → Shared → Prop} {d b : Addr} {kvs : List (List Key × V)} {k : List Key} {v : V} {r : Value} {Q : Unit → Shared → Prop} (hu : X.A.units + 1 < cLine) (I : Inv X pins σ H s) (hD : H d = some (.dT kvs)) (hz : kvs.length < sizeLine)
    (hb : H b = some (.tup (k.map kV))) (rv : RelV v r) (h : ∀ s', Inv X pins σ (upd H d (.dT (putK kvs k v))) s' → Q () s') : wpAny (model X.prog X.w) X.A (dictSet d (.ref b) r) Q E s := by
  obtain ⟨z, hd, xs, rel, dd⟩ := dt_of I.hok hD
  have l1 : xs.length ≤ sizeLine := by rw [← Paired.length rel]; exact z
  have l2 : (putK kvs k v).length ≤ sizeLine := by have q := length_putK kvs k v; omega
  refine wpAny_dictSet_heap (hsz := l1) (show X.A.units < cLine by omega) (key_of I.hok hb) dd fun h' dd' hs => h _ ?_
  obtain ⟨o, es, ep, q1, q2, q3, q4, _, q5⟩ := dd'
  have keep : ∀ c ys, H c = some (.tup ys) → (upd H d (.dT (putK kvs k v))) c = some (.tup ys) := fun c ys ec => by
    rw [upd_ne (ne_of ec hD (fun z => nomatch z))]
    exact ec
  exact d_write I (by rw [hD]; exact True.intro) hs ⟨o, q1⟩ ⟨l2, hd, _, (rel.put k hb rv).keeps keep, o, es, ep, q1, q2, q3, q4, q5⟩
/-- {t: v} -/
def tDispT (tk tv : TE) : TE := fun σ H Q => ∀ p, H p = none → tk σ (upd H p (.dT [])) fun x H1 => tv σ H1 fun y H2 => H2 p = some (.dT []) ∧ ∃ (b : Addr) (k : List Key), x = .ref b ∧ H2 b = some (.tup (k.map kV)) ∧ Q (.ref p) (upd H2 p (.dT [(k, y)]))
theorem pe_dispT {pos : Pos} {ke ve : Expr} {tk tv : TE} (hu : X.A.units + 1 < cLine) (hk : PE X ke tk) (hv : PE X ve tv) : PE X (.Dict [some ke] [ve] pos) (tDispT tk tv) := by
  refine ⟨fun pins s σ H Q I q => ?_⟩
  have I1 := I.laid (a := s.heap.objs.size) (o := .dT []) (h' := s.heap.push { cls := .type "dict", data := .dict #[] }) (t' := s.toks) (fun _ _ z => Heap.get?_push_of_some _ z) (Nat.le_refl _) (dt_empty s.heap I.big)
  have q' := q _ (I.hok.fresh (Nat.le_refl s.heap.objs.size))
  rw [arm_eval_Dict, zip_pairTrees [some ke] [ve] X.env pos rfl rfl, dictDisplay_pairs _ (by simp [pairTrees]) (by simp [pairTrees])]
  refine wpAny_bind (wpAny_standAt (wpAny_bind (wpAny_subDictH (knd := tupleKind (mixKind X.prog X.w)) (Q := fun d s' => wpAny (model X.prog X.w) X.A (pure (Value.ref d)) (EP X pins σ Q) X.xe s') (show X.A.units < cLine by omega) (by simp [pairTrees]) ?_)))
  refine pairTrees_cons_walk (thn (hk.run pins _ σ _ _ I1 q') fun u1 s1 h1 => ?_)
  obtain ⟨x, H1, J1, rx, q1⟩ := h1
  refine thn (hv.run pins s1 σ H1 _ J1 q1) fun u2 s2 h2 => ?_
  obtain ⟨y, H2, J2, ry, e2, b, k, rfl, eb, q2⟩ := h2
  obtain rfl : u1 = Value.ref b := rx
  refine pairTrees_nil_walk ⟨[(k, b, u2)], ⟨rfl, rfl, key_of J2.hok eb, trivial⟩, ?_, fun h' tk' dd' hs => wpAny_pure ⟨.ref s.heap.objs.size, _, ?_, rfl, q2⟩⟩
  · obtain ⟨_, _, xs, rel, dd⟩ := dt_of J2.hok e2
    cases rel
    exact dd
  · obtain ⟨_, hd, xs, rel, dd⟩ := dt_of J2.hok e2
    obtain ⟨o, es, ep, z1, z2, z3, z4, _, z5⟩ := dd'
    refine d_write J2 (by rw [e2]; exact True.intro) hs ⟨o, z1⟩ ⟨by show 1 ≤ sizeLine; decide, hd, [(k, b, u2)], .cons ⟨rfl, ?_, ry⟩ .nil, o, es, ep, z1, z2, z3, z4, z5⟩
    rw [upd_ne (ne_of eb e2 (fun z => nomatch z))]
    exact eb
/-- {tuple: v for target in iter if ..} -/
def tDcT (wi : TI) (g : TG) (tt : TT) (tk tv : TE) (vs : List Nat) : TE := fun σ H Q => wi σ H fun J H1 => ∀ D, H1 D = none → ∃ W : Nat → Nat → Hp → Prop, (∃ m, W 0 m (upd H1 D (.dT []))) ∧ ∀ i m H, W i m H →
  (J.stop i H ∧ Q (.ref D) H) ∨ (J.go i H ∧ ∃ Nx : Hp → Prop, (∀ H', Nx H' → ∃ m', m' < m ∧ W (i + 1) m' H') ∧ ∀ x H', J.yld i H x H' → g x (wipe σ vs) H' fun σ2 H2 => wipe σ2 vs = wipe σ vs ∧ tt σ2 H2 fun b H3 =>
    if b = true then tk σ2 H3 fun y H4 => tv σ2 H4 fun z H5 => ∃ kvs k p, y = .ref p ∧ H5 p = some (.tup (k.map kV)) ∧ H5 D = some (.dT kvs) ∧ kvs.length < sizeLine ∧ Nx (upd H5 D (.dT (putK kvs k z))) else Nx H3)
theorem dcT_core {pins : List (Addr × Obj)} {s : Shared} {σ : L2.St} {H : Hp} {Q : VK} {kx vx tg iter : Expr} {ifs : List Expr} {scope : Scope} {own : List (Str × Nat)} {pos pos' : Pos} {wi : TI} {g : TG} {tt : TT} {tk tv : TE} {use : Option (Value → Sem Unit)} {Qf : Value → Shared → Prop}
    (hu : X.A.units + 1 < cLine) (hc : X.calm = true) (hN : X.N.Nodup) (I : Inv X pins σ H s) (hi : PI X tg iter wi) (ok : BlkOk X.N X.env.scope scope own)
    (hg : ∀ (s : Shared) (H : Hp) (C : Addr) (cl : List (Str × Addr)) (fp : List Addr), PG (X.blk s H scope (compEnvC scope cl C X.env) fp) tg g)
    (ht : ∀ (s : Shared) (H : Hp) (C : Addr) (cl : List (Str × Addr)) (fp : List Addr), PTs (X.blk s H scope (compEnvC scope cl C X.env) fp) ifs tt)
    (hk : ∀ (s : Shared) (H : Hp) (C : Addr) (cl : List (Str × Addr)) (fp : List Addr), PE (X.blk s H scope (compEnvC scope cl C X.env) fp) kx tk)
    (he : ∀ (s : Shared) (H : Hp) (C : Addr) (cl : List (Str × Addr)) (fp : List Addr), PE (X.blk s H scope (compEnvC scope cl C X.env) fp) vx tv)
    (hs : ∀ x, foldedSetIterable iter X.env x = pure x) (h : tDcT wi g tt tk tv (own.map (·.2)) σ H Q)
    (hRR : ∀ D C s' m H', Inv X pins σ H' s' → Q (.ref D) H' → s'.heap.Ns C m → FpOk X pins H' C → compPost (model X.prog X.w) X.A X.xe use Qf (.ref D) C (.ok .next) s') :
    wpAny (model X.prog X.w) X.A (comprehension (.DictComp kx vx [⟨tg, iter, ifs, 0⟩] scope pos) scope X.env pos' newDict false (eval iter X.env) use) Qf X.xe s := by
  have caps : ∀ y ∈ scope.names, y.2 = .free → ∃ c, X.env.cells.lookup y.1 = some c := fun y hy e => (ok.free y hy e).elim (fun k => I.ok.has _ (.inl k)) fun k => I.ok.has _ (.inr k)
  refine wpAny_comprehension_free (use := use) rfl hs (closure_ok caps) ok.kind (fun y hy e => by rw [ok.uniq y hy, e]) (thn (hi.run pins s σ H _ I h) fun xv s1 hx => thn hx fun itv s2 h2 => ?_)
  obtain ⟨it, fp, tn, J, H2, rfl, I2, T, st2, f2, q⟩ := h2
  refine wpAny_newObj_type (newEnv_comp ?_)
  generalize hD : s2.heap.objs.size = D
  obtain ⟨W, ⟨m0, w0⟩, turn⟩ := q D (I2.hok.fresh (Nat.le_of_eq hD))
  -- the new dict
  generalize e3 : ({ s2 with heap := s2.heap.push { cls := .type "dict", data := .dict #[] } } : Shared) = s3
  have hp3 : s3.heap = s2.heap.push { cls := .type "dict", data := .dict #[] } := by rw [← e3]
  have I3 : Inv X pins σ (upd H2 D (.dT [])) s3 := by
    subst e3 hD
    exact I2.laid (t' := s2.toks) (fun b o z => Heap.get?_push_of_some _ z) (Nat.le_refl _) (dt_empty s2.heap I2.big)
  have small : ∀ b ∈ fp, b < s2.heap.objs.size := fun b hb => (T.obj _ _ st2 b hb).elim fun o z => Heap.lt_size z.1
  have f3 : ∀ b ∈ fp, FpOk X pins (upd H2 D (.dT [])) b ∧ b < s3.heap.objs.size := fun b hb => by
    have lt := small b hb
    constructor
    · refine ⟨?_, (f2 b hb).2⟩
      rw [upd_ne (by rw [← hD]; exact Nat.ne_of_lt lt)]
      exact (f2 b hb).1
    · rw [hp3, Heap.size_push]
      exact Nat.lt_succ_of_lt lt
  have st3 : tn 0 s3.heap := T.keep _ _ _ st2 fun b _ o z => by rw [hp3]; exact Heap.get?_push_of_some _ z
  have I4 := block_start I3 ok hN f3
  generalize hcl : cellsFrom (s3.heap.objs.size + 1) scope.names (cloFrom X.env.cells scope.names []) = cl at I4
  have pg := hg s3 (upd H2 D (.dT [])) s3.heap.objs.size cl fp
  have pt := ht s3 (upd H2 D (.dT [])) s3.heap.objs.size cl fp
  have pk := hk s3 (upd H2 D (.dT [])) s3.heap.objs.size cl fp
  have pe := he s3 (upd H2 D (.dT [])) s3.heap.objs.size cl fp
  have goal : codeAny (model X.prog X.w) X.A (.compStart (.DictComp kx vx [⟨tg, iter, ifs, 0⟩] scope pos) 0 (.ref it) (.ref D) (compEnvC scope cl s3.heap.objs.size X.env)) (compPost (model X.prog X.w) X.A X.xe use Qf (.ref D) s3.heap.objs.size)
      { s3 with heap := pushCells (s3.heap.push { cls := .type "dict", data := .dict #[] }) scope.names } := by
    have none3 : ∀ b ∈ fp, (upd H2 D (.dT [])) b = none := fun b hb => (f3 b hb).1.1
    generalize hce : compEnvC scope cl s3.heap.objs.size X.env = ce at I4 pg pt pk pe ⊢
    have loc : ce.locals = s3.heap.objs.size := by subst hce; rfl
    generalize hH3 : upd H2 D (.dT []) = H3 at I3 I4 pg pt pk pe w0 none3 f3
    generalize hs4 : ({ s3 with heap := pushCells (s3.heap.push { cls := .type "dict", data := .dict #[] }) scope.names } : Shared) = s4 at I4 ⊢
    have st4 : tn 0 s4.heap := T.keep _ _ _ st3 fun b _ o z => by rw [← hs4]; exact pushCells_keeps _ _ _ _ (Heap.get?_push_of_some _ z)
    have stat : ∀ {σ' : L2.St} {H' : Hp} {s' : Shared}, Inv (X.blk s3 H3 scope ce fp) [] σ' H' s' → (∀ b ∈ fp, H' b = none) → ∀ b ∈ fp, FpOk (X.blk s3 H3 scope ce fp) [] H' b := fun I' hn b hb =>
      ⟨hn b hb, (I'.ok.exf b hb).1, I'.ok.exfs b hb, .inl hb, fun x c z => (I'.ok.exf b hb).2 x c z, fun p hp => absurd (show p ∈ ([] : List (Addr × Obj)) ++ [] from hp) (by simp)⟩
    have loop : codeAny (model X.prog X.w) X.A (.compLoop (.DictComp kx vx [⟨tg, iter, ifs, 0⟩] scope pos) 0 (.ref it) (.ref D) ce) (compPost (model X.prog X.w) X.A X.xe use Qf (.ref D) s3.heap.objs.size) s4 := by
      refine compLoop_anyD (fun n s' => ∃ i H', Inv (X.blk s3 H3 scope ce fp) [] (wipe σ (own.map (·.2))) H' s' ∧ tn i s'.heap ∧ (∀ b ∈ fp, H' b = none) ∧ W i n H') ?_ m0 ⟨0, H3, I4, st4, none3, w0⟩
      rintro n s5 ⟨i, H5, I5, st5, n5, w5⟩
      rcases turn i n H5 w5 with ⟨stop, qq⟩ | ⟨go, Nx, hNx, step⟩
      · refine thnF (T.done (X.blk s3 H3 scope ce fp) rfl rfl rfl hc i [] s5 _ H5 (fun _ _ => False) I5 (stat I5 n5) st5 stop) fun r s6 h6 => ?_
        obtain ⟨rfl, I6⟩ := h6
        have back : Inv X pins σ H5 s6 := I3.call' (ch := fp) I6.os I6.base I6.hok I6.bare fun b hb => ⟨(f3 b hb).1.2.2.2.1, (f3 b hb).1.2.1, (f3 b hb).1.2.2.2.2.1, (f3 b hb).1.2.2.2.2.2⟩
        have free : H5 ce.locals = none := I6.free
        obtain ⟨m, hn, _⟩ := I6.loc
        have hn : s6.heap.Ns ce.locals m := hn
        rw [loc] at hn free
        exact hRR D s3.heap.objs.size s6 m H5 back qq hn (I3.fpOk (Nat.le_refl _) free)
      · refine thnF (T.item (X.blk s3 H3 scope ce fp) rfl rfl rfl hc i [] s5 _ H5 (fun _ _ => False) I5 (stat I5 n5) st5 go) fun r s6 h6 => ?_
        obtain ⟨u, rfl, h6⟩ := h6
        refine thnF h6 fun _ s7 h7 => ?_
        obtain ⟨x, H7, I7, r7, y7, st7, n7⟩ := h7
        refine thnF (pg.run _ s7 _ H7 x u _ (I7.pinned (stat I7 n7) (T.obj _ _ st7)) r7 (step x H7 y7)) fun _ s8 h8 => ?_
        obtain ⟨σ8, H8, I8, hw8, q8⟩ := h8
        refine thnF (pt.run _ s8 σ8 H8 _ I8 q8) fun b s9 h9 => ?_
        obtain ⟨H9, I9, q9⟩ := h9
        have fin : ∀ {s' : Shared} {H' : Hp}, Inv (X.blk s3 H3 scope ce fp) ([] ++ pinsAt fp s7.heap) σ8 H' s' → Nx H' → ∃ m, m < n ∧ ∃ i H', Inv (X.blk s3 H3 scope ce fp) [] (wipe σ (own.map (·.2))) H' s' ∧ tn i s'.heap ∧ (∀ b ∈ fp, H' b = none) ∧ W i m H' := fun {s' H'} I' nx => by
          obtain ⟨m', hm, w'⟩ := hNx H' nx
          have pinned : ∀ b ∈ fp, ∀ o, s7.heap.get? b = some o → s'.heap.get? b = some o ∧ H' b = none := fun b hb o z =>
            have y := I'.pin (b, o) (List.mem_append_right _ (List.mem_append_right _ (mem_pinsAt hb z)))
            ⟨y.1, y.2.1⟩
          refine ⟨m', hm, i + 1, H', (I'.unpinned (pins := [])).weak (by rw [← hw8, wipe_length]) (fun j v z => ?_), T.keep _ _ _ st7 fun b hb o z => (pinned b hb o z).1, fun b hb => ?_, w'⟩
          · rw [← hw8] at z
            exact (wipe_some z).1
          · exact (T.obj _ _ st7 b hb).elim fun o z => (pinned b hb o z.1).2
        cases b with
        | false => exact fin I9 q9
        | true =>
          show wpAny (model X.prog X.w) X.A (eval kx ce) _ _ s9
          refine thnF (pk.run _ s9 σ8 H9 _ I9 q9) fun z s10 h10 => ?_
          obtain ⟨yk, H10, I10, r10, q10⟩ := h10
          refine thnF (pe.run _ s10 σ8 H10 _ I10 q10) fun z2 s11 h11 => ?_
          obtain ⟨yv, H11, I11, r11, kvs, k, p, rfl, hp11, hD11, hz11, nx⟩ := h11
          obtain rfl : z = Value.ref p := r10
          exact t_dictSet (X := X.blk s3 H3 scope ce fp) hu I11 hD11 hz11 hp11 r11 fun s12 I12 => fin I12 nx
    exact codeAny_compStart_dict loop (T.self X.A 0 _ _ _ st4 loop)
  subst hcl
  exact goal
/-- as a value -/
theorem pe_dcT {kx vx tg iter : Expr} {ifs : List Expr} {scope : Scope} {own : List (Str × Nat)} {pos : Pos} {wi : TI} {g : TG} {tt : TT} {tk tv : TE} (hu : X.A.units + 1 < cLine) (hc : X.calm = true) (hN : X.N.Nodup) (hi : PI X tg iter wi) (ok : BlkOk X.N X.env.scope scope own)
    (hg : ∀ (s : Shared) (H : Hp) (C : Addr) (cl : List (Str × Addr)) (fp : List Addr), PG (X.blk s H scope (compEnvC scope cl C X.env) fp) tg g)
    (ht : ∀ (s : Shared) (H : Hp) (C : Addr) (cl : List (Str × Addr)) (fp : List Addr), PTs (X.blk s H scope (compEnvC scope cl C X.env) fp) ifs tt)
    (hk : ∀ (s : Shared) (H : Hp) (C : Addr) (cl : List (Str × Addr)) (fp : List Addr), PE (X.blk s H scope (compEnvC scope cl C X.env) fp) kx tk)
    (he : ∀ (s : Shared) (H : Hp) (C : Addr) (cl : List (Str × Addr)) (fp : List Addr), PE (X.blk s H scope (compEnvC scope cl C X.env) fp) vx tv) (hs : ∀ x, foldedSetIterable iter X.env x = pure x) :
    PE X (.DictComp kx vx [⟨tg, iter, ifs, 0⟩] scope pos) (tDcT wi g tt tk tv (own.map (·.2))) := by
  refine ⟨fun pins s σ H Q I h => ?_⟩
  rw [arm_eval_DictComp]
  refine dcT_core hu hc hN I hi ok hg ht hk he hs h fun D C s' m H' I' q hn f => ⟨m, hn, fun h'' sb => ?_⟩
  exact ⟨.ref D, H', I'.turned (t' := s'.toks) (fun b o hb z => (sb.2 b hb).trans z) f.1 f.2.1 f.2.2.2.1 f.2.2.2.2.1 f.2.2.2.2.2, rfl, q⟩
/-- name = {..} on one line, the name a local -/
theorem ps_setDcT {i : Nat} {y : Str} {py : Pos} {kx vx tg iter : Expr} {ifs : List Expr} {scope : Scope} {own : List (Str × Nat)} {pos spos : Pos} {wi : TI} {g : TG} {tt : TT} {tk tv : TE} (hu : X.A.units + 1 < cLine) (hc : X.calm = true) (hN : X.N.Nodup) (hy : X.N[i]? = some y) (hyl : X.env.scope.names.lookup y = some .local)
    (hsw : swapsWith (.DictComp kx vx [⟨tg, iter, ifs, 0⟩] scope pos) (some (.Name y py)) spos.line X.env = pure true) (hi : PI X tg iter wi) (ok : BlkOk X.N X.env.scope scope own)
    (hg : ∀ (s : Shared) (H : Hp) (C : Addr) (cl : List (Str × Addr)) (fp : List Addr), PG (X.blk s H scope (compEnvC scope cl C X.env) fp) tg g)
    (ht : ∀ (s : Shared) (H : Hp) (C : Addr) (cl : List (Str × Addr)) (fp : List Addr), PTs (X.blk s H scope (compEnvC scope cl C X.env) fp) ifs tt)
    (hk : ∀ (s : Shared) (H : Hp) (C : Addr) (cl : List (Str × Addr)) (fp : List Addr), PE (X.blk s H scope (compEnvC scope cl C X.env) fp) kx tk)
    (he : ∀ (s : Shared) (H : Hp) (C : Addr) (cl : List (Str × Addr)) (fp : List Addr), PE (X.blk s H scope (compEnvC scope cl C X.env) fp) vx tv) (hs : ∀ x, foldedSetIterable iter X.env x = pure x) :
    PS X (.Assign [.Name y py] (.DictComp kx vx [⟨tg, iter, ifs, 0⟩] scope pos) spos) (tAsg (tDcT wi g tt tk tv (own.map (·.2))) (gName i)) := by
  refine ⟨fun pins s σ H D I h => ?_⟩
  rw [exec_Assign_Name_used _ _ _ _ hsw]
  refine wpAny_bind (wpAny_standAt (wpAny_bind ?_))
  show wpAny _ X.A (do let _ ← comprehension (.DictComp kx vx [⟨tg, iter, ifs, 0⟩] scope pos) scope X.env (firstIterPos [⟨tg, iter, ifs, 0⟩] pos) newDict false (eval iter X.env) (some (assign (.Name y py) X.env))) _ _ s
  have h : tDcT wi g tt tk tv (own.map (·.2)) σ H (fun x H1 => gName i x σ H1 D.nx) := h
  refine wpAny_bind (thn (dcT_core (Qf := fun _ s' => SP X pins D .next s') hu hc hN I hi ok hg ht hk he hs h fun L C s' m H' I' q hn f => ?_) fun _ s' hq => wpAny_pure (wpAny_pure hq))
  show wpAny _ _ (assign (.Name y py) X.env (.ref L)) _ _ _
  refine wpAny_assign_Name (store_ok2 (v := V.ref L) I' hN hy (.inl hyl) rfl (fun s2 I2 hh => ?_) (.inr hyl))
  obtain ⟨a, sb, ha⟩ := hh
  have apart : C ≠ a := ha.elim (fun z => by rw [z]; exact f.2.1) fun z e => f.2.2.2.2.1 y a z e.symm
  refine ⟨m, hn.sameBut sb apart, fun h3 sb3 => ⟨_, H', I2.turned (t' := s2.toks) (fun b o hb e => (sb3.2 b hb).trans e) f.1 f.2.1 f.2.2.2.1 f.2.2.2.2.1 f.2.2.2.2.2, q⟩⟩
end
end EV

set_option maxHeartbeats 4000000
/-! Ev, part G: comprehensions, dict displays, lifted. -/
namespace EV
open PySem PySem.Spec L2

/-! ### slots forgotten -/
def wipeE (Γ : Env') : List Nat → Env'
  | [] => Γ
  | v :: vs => (wipeE Γ vs).set v none
section
variable {K : PySem.W.Frag} {H : Hp} {G : List Addr}
theorem RepE.wipe {Γ : Env'} {σ : St} {O : List Addr} (r : RepE K H G Γ σ O) : ∀ vs : List Nat, ∃ O', (∀ a ∈ O', a ∈ O) ∧ O'.Sublist O ∧ RepE K H G (wipeE Γ vs) (L2.wipe σ vs) O'
  | [] => ⟨O, fun _ m => m, List.Sublist.refl _, r⟩
  | v :: vs => by
    obtain ⟨O1, m1, s1, r1⟩ := RepE.wipe r vs
    obtain ⟨O2, m2, s2, r2⟩ := r1.forget (i := v) none
    exact ⟨O2, fun a m => m1 a (m2 a m), s2.trans s1, r2⟩
theorem RepE.agree : ∀ {Γ : Env'} {σ σ' : St} {O : List Addr}, RepE K H G Γ σ O → σ'.length = σ.length → (∀ i : Nat, Γ[i]? ≠ some none → σ'[i]? = σ[i]?) → RepE K H G Γ σ' O
  | _, _, [], _, .nil, _, _ => .nil
  | _, _, _ :: _, _, .nil, l, _ => by simp at l
  | _, _, [], _, .cs _ _, l, _ => by simp at l
  | _, _, x :: σ', _, .cs h t, l, a => by
    have e := a 0 (by simp)
    simp at e
    subst e
    exact .cs h (RepE.agree t (by simpa using l) fun i n => by simpa using a (i + 1) (by simpa using n))
  | _, _, [], _, .cn _, l, _ => by simp at l
  | _, _, x :: σ', _, .cn t, l, a => .cn (RepE.agree t (by simpa using l) fun i n => by simpa using a (i + 1) (by simpa using n))
theorem wipeE_at {Γ : Env'} {i : Nat} : ∀ {vs : List Nat}, i ∈ vs → (wipeE Γ vs)[i]? = some none ∨ (wipeE Γ vs)[i]? = none
  | [], m => by cases m
  | v :: vs, m => by
    unfold wipeE
    by_cases e : v = i
    · subst e
      by_cases l : v < (wipeE Γ vs).length
      · rw [List.getElem?_set_self l]; exact .inl rfl
      · rw [List.getElem?_eq_none (by rw [List.length_set]; omega)]; exact .inr rfl
    · rw [List.getElem?_set_ne e]
      refine wipeE_at (vs := vs) ?_
      rcases List.mem_cons.mp m with z | z
      · exact absurd z.symm e
      · exact z
theorem wipeE_length (Γ : Env') : ∀ vs : List Nat, (wipeE Γ vs).length = Γ.length
  | [] => rfl
  | v :: vs => by unfold wipeE; rw [List.length_set, wipeE_length Γ vs]
theorem wipe_at {σ : St} {i : Nat} : ∀ {vs : List Nat}, i ∈ vs → (L2.wipe σ vs)[i]? = if i < σ.length then some none else none
  | [], m => by cases m
  | v :: vs, m => by
    unfold L2.wipe
    by_cases e : v = i
    · subst e
      by_cases l : v < (L2.wipe σ vs).length
      · rw [List.getElem?_set_self l, if_pos (by rwa [wipe_length] at l)]
      · rw [List.getElem?_eq_none (by rw [List.length_set]; omega), if_neg (by rwa [wipe_length] at l)]
    · rw [List.getElem?_set_ne e]
      refine wipe_at (vs := vs) ?_
      rcases List.mem_cons.mp m with z | z
      · exact absurd z.symm e
      · exact z
theorem RepE.unwipe {Γ : Env'} {σ : St} {O : List Addr} {vs : List Nat} (r : RepE K H G (wipeE Γ vs) (L2.wipe σ vs) O) : RepE K H G (wipeE Γ vs) σ O := by
  refine r.agree (wipe_length σ vs).symm fun i n => ?_
  by_cases m : i ∈ vs
  · rcases wipeE_at (Γ := Γ) m with e | e
    · exact absurd e n
    · have l1 : (wipeE Γ vs).length ≤ i := List.getElem?_eq_none_iff.mp e
      have l2 := r.length
      rw [wipe_length] at l2
      rw [List.getElem?_eq_none (by omega), List.getElem?_eq_none (by rw [wipe_length]; omega)]
  · exact (wipe_out m).symm
theorem wipe_only {σ σ2 : St} {vs js : List Nat} (h : Only' js (L2.wipe σ vs) σ2) (sub : ∀ j ∈ js, j ∈ vs) : L2.wipe σ2 vs = L2.wipe σ vs := by
  refine List.ext_getElem? fun i => ?_
  by_cases m : i ∈ vs
  · rw [wipe_at m, wipe_at m, h.1, wipe_length]
  · rw [wipe_out m, h.2 i fun z => m (sub i z)]
end
theorem SOk.wiped {K : PySem.W.Frag} {H0 : Hp} {M0 F : List Addr} {Γ : Env'} {σ : St} {H : Hp} {O : List Addr} (st : SOk K H0 M0 F Γ σ H O) (vs : List Nat) : ∃ O', SOk K H0 M0 F (wipeE Γ vs) (L2.wipe σ vs) H O' ∧ ∀ a ∈ O', a ∈ O := by
  obtain ⟨O', m, sl, r⟩ := st.rep.wipe vs
  have sub : ∀ a, a ∈ F ++ O' → a ∈ F ++ O := fun a z => by
    rcases List.mem_append.mp z with z | z
    · exact List.mem_append_left _ z
    · exact List.mem_append_right _ (m a z)
  exact ⟨O', ⟨r.ext (.sub sub) (fun _ _ _ e => e), st.nd.sublist sl, fun a z => st.dj a (m a z), fun a z => st.trk a (sub a z), st.keep, fun a z => st.own a (m a z)⟩, m⟩
theorem SOk.unwiped {K : PySem.W.Frag} {H0 : Hp} {M0 F : List Addr} {Γ : Env'} {σ : St} {H : Hp} {O : List Addr} {vs : List Nat} (st : SOk K H0 M0 F (wipeE Γ vs) (L2.wipe σ vs) H O) : SOk K H0 M0 F (wipeE Γ vs) σ H O := ⟨st.rep.unwipe, st.nd, st.dj, st.trk, st.keep, st.own⟩
/-- tests of a clause -/
structure XTs (X : Cx) (es : List Expr) (w : WT) : Prop where
  pts : PTs X es (LT X.K w)
  mono : MonoT w
def wYes : WT := fun Γ R => R true Γ
section
variable {X : Cx} {e : Expr} {w : WT}
theorem ptsW {es : List Expr} {t t' : TT} (h : PTs X es t) (i : ∀ σ H Q, t' σ H Q → t σ H Q) : PTs X es t' := ⟨fun pins s σ H Q I q => h.run pins s σ H Q I (i σ H Q q)⟩
theorem XTs.nil : XTs X [] wYes := by
  refine ⟨ptsW pts_nil fun σ H Q => ?_, fun Γ P P' i q => i _ _ q⟩
  rintro ⟨H0, M0, F, Γ, O, st, hw⟩
  exact hw _ _ (.refl st)
theorem XTs.one (h : XT X e w) : XTs X [e] w := ⟨pts_one h.pt, h.mono⟩
end
/-! ### the state while a new container at p is filled -/
structure Fill (K : PySem.W.Frag) (H1 : Hp) (F1 O1 : List Addr) (p : Addr) (Γ : Env') (σ : St) (H : Hp) (O : List Addr) : Prop where
  st : SOk K H1 O1 (F1 ++ [p]) Γ σ H O
  same : ∀ a o, H1 a = some o → H a = some o
  sub : ∀ a ∈ O, a ∈ O1
section
variable {K : PySem.W.Frag} {H1 : Hp} {F1 O1 : List Addr} {p : Addr} {Γ : Env'} {σ : St} {H H' : Hp} {O : List Addr}
theorem Fill.step {Γ' : Env'} {O' : List Addr} (f : Fill K H1 F1 O1 p Γ σ H O) (c : Chn K H1 O1 (F1 ++ [p]) σ H O Γ' H' (F1 ++ [p]) O') : Fill K H1 F1 O1 p Γ' σ H' O' := ⟨c.st, fun a o e => c.same a o (f.same a o e), fun a m => f.sub a (c.sub a m)⟩
/-- the container rewritten -/
theorem Fill.upd {o : HO} (f : Fill K H1 F1 O1 p Γ σ H O) (hp : H1 p = none) (hn : ∀ vs, H p ≠ some (.tup vs)) : Fill K H1 F1 O1 p Γ σ (L2.upd H p o) O ∧ Ext ((F1 ++ [p]) ++ O) H ((F1 ++ [p]) ++ O) (L2.upd H p o) := by
  have np : ∀ a o, H1 a = some o → a ≠ p := fun a o e z => by rw [z, hp] at e; cases e
  have pO : p ∉ O := fun m => f.st.dj p m (by simp)
  have x : Ext ((F1 ++ [p]) ++ O) H ((F1 ++ [p]) ++ O) (L2.upd H p o) := by
    refine ⟨fun a u hg e => ⟨u, ?_, .inl rfl⟩, fun a vs e => ?_, fun a m => .inl m⟩
    · rw [upd_ne (fun z => hg (by rw [z]; simp))]; exact e
    · rw [upd_ne (fun z => by rw [z] at e; exact hn vs e)]; exact e
  refine ⟨⟨⟨f.st.rep.ext x fun a m u e => ?_, f.st.nd, f.st.dj, fun a m => ?_, fun a u e m => ?_, f.st.own⟩, fun a u e => ?_, f.sub⟩, x⟩
  · rw [upd_ne (show a ≠ p from fun z => pO (z ▸ m))]; exact e
  · by_cases z : a = p
    · subst z; exact ⟨_, upd_same⟩
    · rw [upd_ne z]; exact f.st.trk a m
  · rw [upd_ne (np a u e)]; exact f.st.keep a u e m
  · rw [upd_ne (np a u e)]; exact f.same a u e
/-- the start: p new, with o in it -/
theorem Fill.start {o : HO} {H0 : Hp} {M0 : List Addr} (st : SOk K H0 M0 F1 Γ σ H1 O1) (hp : H1 p = none) : Fill K H1 F1 O1 p Γ σ (L2.upd H1 p o) O1 := by
  have np : ∀ a u, H1 a = some u → a ≠ p := fun a u e z => by rw [z, hp] at e; cases e
  have same : ∀ a u, H1 a = some u → (L2.upd H1 p o) a = some u := fun a u e => by rw [upd_ne (np a u e)]; exact e
  refine ⟨⟨st.rep.ext (.of_same same fun a m => ?_) fun a _ u e => same a u e, st.nd, fun a m z => ?_, fun a m => ?_, fun a u e _ => same a u e, fun a m => .inl m⟩, same, fun _ m => m⟩
  · simp only [List.mem_append, List.mem_singleton] at m ⊢
    rcases m with (m | m) | m
    · exact .inl (.inl m)
    · subst m; exact .inr hp
    · exact .inl (.inr m)
  · rcases List.mem_append.mp z with z | z
    · exact st.dj a m z
    · simp at z
      subst z
      obtain ⟨u, e⟩ := st.trk a (List.mem_append_right _ m)
      rw [hp] at e; cases e
  · simp only [List.mem_append, List.mem_singleton] at m
    rcases m with (m | m) | m
    · obtain ⟨u, e⟩ := st.trk a (List.mem_append_left _ m)
      exact ⟨u, same a u e⟩
    · subst m; exact ⟨_, upd_same⟩
    · obtain ⟨u, e⟩ := st.trk a (List.mem_append_right _ m)
      exact ⟨u, same a u e⟩
/-- how the walk's beginning and the present lie -/
theorem Fill.later {H0 : Hp} {M0 : List Addr} (st : SOk K H0 M0 F1 Γ σ H1 O1) {Γ' : Env'} {σ' : St} (f : Fill K H1 F1 O1 p Γ' σ' H O) (hp : H1 p = none) : Later (F1 ++ O1) H1 ((F1 ++ [p]) ++ O) H := by
  refine ⟨fun a o _ e => f.same a o e, fun a vs e => f.same a _ e, fun a m => ?_⟩
  simp only [List.mem_append, List.mem_singleton] at m ⊢
  rcases m with (m | m) | m
  · exact .inl (.inl m)
  · subst m; exact .inr hp
  · exact .inl (.inr (f.sub a m))
/-- the end: back in the expression -/
theorem Fill.done {H0 : Hp} {M0 F : List Addr} {σ0 : St} {H00 : Hp} {O0 : List Addr} {Γ1 : Env'} (c : Chn K H0 M0 F σ0 H00 O0 Γ1 H1 F O1) (f : Fill K H1 F O1 p Γ σ0 H O) (hp : H1 p = none) : Chn K H0 M0 F σ0 H00 O0 Γ H (F ++ [p]) O ∧ ∀ a ∈ [p], a ∈ O0 ∨ H00 a = none := by
  have hp0 : H00 p = none := by
    cases e : H00 p with
    | none => rfl
    | some o => rw [c.same p o e] at hp; cases hp
  refine ⟨⟨⟨f.st.rep, f.st.nd, f.st.dj, f.st.trk, fun a o e m => f.same a o (c.st.keep a o e m), fun a m => c.st.own a (f.sub a m)⟩, fun a o e => f.same a o (c.same a o e), fun a m => c.sub a (f.sub a m), fun a m => List.mem_append_left _ m, fun a m => ?_⟩, fun a m => ?_⟩
  · rcases List.mem_append.mp m with m | m
    · exact .inl m
    · simp at m; subst m; exact .inr (.inr hp0)
  · simp at m; subst m; exact .inr hp0
end
/-! ### list comprehensions -/
def lcLoop (vs : List Nat) (g : WG) (tt : WT) (we : WE) (R : OT → Env' → Prop) : List D → List D → Env' → Prop
  | [], acc, Γ => R (.lst acc) Γ
  | d :: ds, acc, Γ => g (.sh d) Γ fun Γ1 => tt Γ1 fun b Γ2 => if b = true then we Γ2 fun t Γ3 => acc.length < sizeLine ∧ lcLoop vs g tt we R ds (acc ++ [t.val]) (wipeE Γ3 vs) else lcLoop vs g tt we R ds acc (wipeE Γ2 vs)
def wLc (vs : List Nat) (wi : WA) (g : WG) (tt : WT) (we : WE) : WE := fun Γ R => wi Γ fun ds Γ1 => lcLoop vs g tt we R ds [] (wipeE Γ1 vs)
theorem lcLoop_mono {vs : List Nat} {g : WG} {tt : WT} {we : WE} (hg : ∀ t Γ (P P' : Env' → Prop), (∀ Γ', P Γ' → P' Γ') → g t Γ P → g t Γ P') (ht : MonoT tt) (he : MonoE we) {R R' : OT → Env' → Prop} (i : ∀ t Γ, R t Γ → R' t Γ) : ∀ ds acc Γ, lcLoop vs g tt we R ds acc Γ → lcLoop vs g tt we R' ds acc Γ
  | [], _, _, q => i _ _ q
  | d :: ds, acc, Γ, q => hg _ _ _ _ (fun Γ1 q1 => ht _ _ _ (fun b Γ2 q2 => by
    cases b with
    | true => exact he _ _ _ (fun t Γ3 q3 => ⟨q3.1, lcLoop_mono hg ht he i ds _ _ q3.2⟩) q2
    | false => exact lcLoop_mono hg ht he i ds _ _ q2) q1) q
theorem lc_ok {K : PySem.W.Frag} {vs js : List Nat} {wi : WA} {g : WG} {tt : WT} {we : WE} (hi : MonoA wi) (hg : ∀ t Γ (P P' : Env' → Prop), (∀ Γ', P Γ' → P' Γ') → g t Γ P → g t Γ P') (ht : MonoT tt) (he : MonoE we) (sub : ∀ j ∈ js, j ∈ vs) (σ : St) (H : Hp) (Q : VK)
    (h : LE K (wLc vs wi g tt we) σ H Q) : tLc (LI K wi) (LG K g js) (LT K tt) (LE K we) vs σ H Q := by
  obtain ⟨H0, M0, F, Γ, O, st, hw⟩ := h
  refine ⟨H0, M0, F, Γ, O, st, hi _ _ _ (fun ds Γ1 q1 J H1 O1 c hJ p hp => ?_) hw⟩
  have f0 : Fill K H1 F O1 p Γ1 σ (upd H1 p (.lst [])) O1 := .start c.st hp
  refine ⟨fun i m H' => m = ds.length - i ∧ i ≤ ds.length ∧ ∃ Γ' O' acc xs, Fill K H1 F O1 p (wipeE Γ' vs) (wipe σ vs) H' O' ∧ H' p = some (.lst xs) ∧ Reps K H' ((F ++ [p]) ++ O') acc xs ∧
    lcLoop vs g tt we (fun t Γ' => ∀ v H' Od O', Chn K H0 M0 F σ H O Γ' H' (F ++ Od) O' → (∀ a ∈ Od, a ∈ O ∨ H a = none) → RepO K H' ((F ++ Od) ++ O') t v Od → Q v H') (ds.drop i) acc (wipeE Γ' vs), ⟨ds.length, ?_⟩, ?_⟩
  · obtain ⟨O2, st2, sb2⟩ := f0.st.wiped vs
    exact ⟨by simp, Nat.zero_le _, Γ1, O2, [], [], ⟨st2, f0.same, fun a m => f0.sub a (sb2 a m)⟩, upd_same, .nil, by simpa using q1⟩
  · rintro i m H' ⟨rfl, hi', Γ', O', acc, xs, f, hpx, rs, q⟩
    obtain ⟨go, stop, yl⟩ := hJ _ _ (f.later c.st hp)
    by_cases hlt : i < ds.length
    · obtain ⟨d, hd⟩ : ∃ d, ds[i]? = some d := ⟨ds[i], by simp [hlt]⟩
      have ed : ds.drop i = d :: ds.drop (i + 1) := by
        rw [List.drop_eq_getElem_cons hlt]
        have : ds[i] = d := by simpa [hlt] using hd
        rw [this]
      rw [ed] at q
      refine .inr ⟨go i hlt, fun H' => ∃ Γ' O' acc xs, Fill K H1 F O1 p (wipeE Γ' vs) (wipe σ vs) H' O' ∧ H' p = some (.lst xs) ∧ Reps K H' ((F ++ [p]) ++ O') acc xs ∧
        lcLoop vs g tt we (fun t Γ' => ∀ v H' Od O', Chn K H0 M0 F σ H O Γ' H' (F ++ Od) O' → (∀ a ∈ Od, a ∈ O ∨ H a = none) → RepO K H' ((F ++ Od) ++ O') t v Od → Q v H') (ds.drop (i + 1)) acc (wipeE Γ' vs), fun H' hn => ⟨ds.length - (i + 1), by omega, rfl, hlt, hn⟩, fun x H2 y => ?_⟩
      obtain ⟨same2, rx⟩ := yl i x H2 d hd y
      have x2 : Ext ((F ++ [p]) ++ O') H' ((F ++ [p]) ++ O') H2 := .of_same same2 fun a m => .inl m
      have st2 : SOk K H1 O1 (F ++ [p]) (wipeE Γ' vs) (wipe σ vs) H2 O' := ⟨f.st.rep.ext x2 fun a _ o e => same2 a o e, f.st.nd, f.st.dj, fun a m => (f.st.trk a m).imp fun o e => same2 a o e, fun a o e m => same2 a o (f.st.keep a o e m), f.st.own⟩
      refine ⟨H1, O1, F ++ [p], wipeE Γ' vs, O', .sh d, [], st2.nilF, fun _ m => (nomatch m), List.nodup_nil, fun _ m => (nomatch m), .sh (by simpa using rx), hg _ _ _ _ (fun Γ3 q3 σ3 O3 st3 sb3 on3 => ?_) q⟩
      have sb3' : ∀ a ∈ O3, a ∈ O' := fun a m => (sb3 a m).elim id fun z => nomatch z
      have ew := wipe_only on3 sub
      refine ⟨ew, H1, O1, F ++ [p], Γ3, O3, st3, ht _ _ _ (fun b Γ4 q4 H4 O4 c4 => ?_) q3⟩
      have rs2 := rs.ext x2
      have sames4 : ∀ a o, H' a = some o → H4 a = some o := fun a o e => c4.same a o (same2 a o e)
      have x3 : Ext ((F ++ [p]) ++ O') H2 ((F ++ [p]) ++ O3) H2 := .sub fun a m => by
        rcases List.mem_append.mp m with m | m
        · exact List.mem_append_left _ m
        · exact List.mem_append_right _ (sb3' a m)
      have rs4 := (rs2.ext x3).ext c4.ext
      -- the end of a turn, from a state over the slots σ3
      have fin : ∀ {Γ5 : Env'} {H5 : Hp} {O5 : List Addr}, SOk K H1 O1 (F ++ [p]) Γ5 σ3 H5 O5 → (∀ a o, H1 a = some o → H5 a = some o) → (∀ a ∈ O5, a ∈ O1) → ∃ O6, Fill K H1 F O1 p (wipeE Γ5 vs) (wipe σ vs) H5 O6 ∧ ∀ a ∈ O6, a ∈ O5 := fun {Γ5 H5 O5} st5 s5 b5 => by
        obtain ⟨O6, st6, sb6⟩ := st5.wiped vs
        rw [ew] at st6
        exact ⟨O6, ⟨st6, s5, fun a m => b5 a (sb6 a m)⟩, sb6⟩
      have less : ∀ {Oa Ob : List Addr} {Hx : Hp} {ds' : List D} {vs' : List V}, (∀ a ∈ Ob, a ∈ Oa) → Reps K Hx ((F ++ [p]) ++ Oa) ds' vs' → Reps K Hx ((F ++ [p]) ++ Ob) ds' vs' := fun h r => r.less h
      cases b with
      | false =>
        obtain ⟨O6, f6, sb6⟩ := fin c4.st (fun a o e => sames4 a o (f.same a o e)) (fun a m => f.sub a (sb3' a (c4.sub a m)))
        exact ⟨Γ4, O6, acc, xs, f6, sames4 p _ hpx, less sb6 rs4, q4⟩
      | true =>
        refine ⟨H1, O1, F ++ [p], Γ4, O4, c4.st, he _ _ _ (fun t Γ5 q5 v5 H5 Od O5 c5 fr5 r5 => ?_) q4⟩
        have rd := c5.dropped c4.st fr5 r5
        have cb := c5.base
        have same5 : ∀ a o, H' a = some o → H5 a = some o := fun a o e => cb.same a o (sames4 a o e)
        obtain ⟨O6, f6, sb6⟩ := fin cb.st (fun a o e => same5 a o (f.same a o e)) (fun a m => f.sub a (sb3' a (c4.sub a (cb.sub a m))))
        have rs5 := rs4.ext cb.ext
        have hp5 := same5 p _ hpx
        obtain ⟨f7, x7⟩ := f6.upd (o := .lst (xs ++ [v5])) hp (fun vs z => by rw [hp5] at z; exact nomatch z)
        refine ⟨xs, hp5, by rw [← rs.length]; exact q5.1, Γ5, O6, acc ++ [t.val], xs ++ [v5], f7, upd_same, ?_, q5.2⟩
        exact ((less sb6 rs5).append (.cons (rd.ext (.sub fun a m => by
          rcases List.mem_append.mp m with m | m
          · exact List.mem_append_left _ m
          · exact List.mem_append_right _ (sb6 a m))) .nil)).ext x7
    · have e : i = ds.length := by omega
      subst e
      rw [List.drop_length] at q
      have f' : Fill K H1 F O1 p (wipeE Γ' vs) σ H' O' := ⟨f.st.unwiped, f.same, f.sub⟩
      obtain ⟨cc, fr⟩ := f'.done c hp
      exact .inl ⟨stop, q _ _ _ _ cc fr (.lst hpx rs)⟩
section
variable {X : Cx} {elt tg iter : Expr} {ifs : List Expr} {scope : Scope} {own : List (Str × Nat)} {js : List Nat} {pos : Pos} {wi : WA} {g : WG} {tt : WT} {we : WE} {st : Stmt} {i : Nat}
theorem wLc_mono (hi : XI X tg iter wi) (hg : ∀ t Γ (P P' : Env' → Prop), (∀ Γ', P Γ' → P' Γ') → g t Γ P → g t Γ P') (ht : MonoT tt) (he : MonoE we) {vs : List Nat} : MonoE (wLc vs wi g tt we) := fun Γ P P' i q => hi.mono _ _ _ (fun ds Γ1 q1 => lcLoop_mono hg ht he i ds _ _ q1) q
theorem XE.lc (hc : X.calm = true) (hN : X.N.Nodup) (hi : XI X tg iter wi) (ok : BlkOk X.N X.env.scope scope own) (hg : ∀ (s : Shared) (H : Hp) (C : Addr) (cl : List (Str × Addr)) (fp : List Addr), XG (X.blk s H scope (compEnvC scope cl C X.env) fp) tg g js)
    (ht : ∀ (s : Shared) (H : Hp) (C : Addr) (cl : List (Str × Addr)) (fp : List Addr), XTs (X.blk s H scope (compEnvC scope cl C X.env) fp) ifs tt) (he : ∀ (s : Shared) (H : Hp) (C : Addr) (cl : List (Str × Addr)) (fp : List Addr), XE (X.blk s H scope (compEnvC scope cl C X.env) fp) elt we)
    (hgm : ∀ t Γ (P P' : Env' → Prop), (∀ Γ', P Γ' → P' Γ') → g t Γ P → g t Γ P') (htm : MonoT tt) (hem : MonoE we) (sub : ∀ j ∈ js, j ∈ own.map (·.2)) (hs : ∀ x, foldedSetIterable iter X.env x = pure x) : XE X (.ListComp elt [⟨tg, iter, ifs, 0⟩] scope pos) (wLc (own.map (·.2)) wi g tt we) :=
  ⟨peW (pe_lc hc hN hi.pi ok (fun s H C cl fp => (hg s H C cl fp).pg) (fun s H C cl fp => (ht s H C cl fp).pts) (fun s H C cl fp => (he s H C cl fp).pe) hs) (lc_ok hi.mono hgm htm hem sub), wLc_mono hi hgm htm hem⟩
/-- name = e for an expression whose own rule for the statement is known -/
theorem XS.setBy {w : WE} {te : TE} (hm : MonoE w) (hp : PS X st (tAsg te (gName i))) (h : ∀ σ H Q, LE X.K w σ H Q → te σ H Q) : XS X st (wAsg w (gVar i)) := by
  refine ⟨psW hp fun D σ H q => h _ _ _ ?_, fun W W' Γ l q => hm _ _ _ (fun t Γ1 q1 => ⟨q1.1, l.nx _ q1.2⟩) q⟩
  obtain ⟨H0, M0, F, Γ, O, st, hw⟩ := lasg (g := gVar i) (js := [i]) hm (fun t Γ P P' i q => ⟨q.1, i _ q.2⟩) D σ H q
  exact ⟨H0, M0, F, Γ, O, st, hm _ _ _ (fun t Γ1 q1 v H' Od O' c fr r => lgVar (q1 v H' Od O' c fr r)) hw⟩
theorem XS.setLc {y : Str} {py spos : Pos} (hc : X.calm = true) (hN : X.N.Nodup) (hy : X.N[i]? = some y) (hyl : X.env.scope.names.lookup y = some .local) (hsw : swapsWith (.ListComp elt [⟨tg, iter, ifs, 0⟩] scope pos) (some (.Name y py)) spos.line X.env = pure true)
    (hi : XI X tg iter wi) (ok : BlkOk X.N X.env.scope scope own) (hg : ∀ (s : Shared) (H : Hp) (C : Addr) (cl : List (Str × Addr)) (fp : List Addr), XG (X.blk s H scope (compEnvC scope cl C X.env) fp) tg g js)
    (ht : ∀ (s : Shared) (H : Hp) (C : Addr) (cl : List (Str × Addr)) (fp : List Addr), XTs (X.blk s H scope (compEnvC scope cl C X.env) fp) ifs tt) (he : ∀ (s : Shared) (H : Hp) (C : Addr) (cl : List (Str × Addr)) (fp : List Addr), XE (X.blk s H scope (compEnvC scope cl C X.env) fp) elt we)
    (hgm : ∀ t Γ (P P' : Env' → Prop), (∀ Γ', P Γ' → P' Γ') → g t Γ P → g t Γ P') (htm : MonoT tt) (hem : MonoE we) (sub : ∀ j ∈ js, j ∈ own.map (·.2)) (hs : ∀ x, foldedSetIterable iter X.env x = pure x) :
    XS X (.Assign [.Name y py] (.ListComp elt [⟨tg, iter, ifs, 0⟩] scope pos) spos) (wAsg (wLc (own.map (·.2)) wi g tt we) (gVar i)) :=
  .setBy (wLc_mono hi hgm htm hem) (ps_setLc hc hN hy hyl hsw hi.pi ok (fun s H C cl fp => (hg s H C cl fp).pg) (fun s H C cl fp => (ht s H C cl fp).pts) (fun s H C cl fp => (he s H C cl fp).pe) hs) (lc_ok hi.mono hgm htm hem sub)
end
end EV

set_option maxHeartbeats 4000000
/-! Ev, part H: dict comprehensions by tuple keys, displays, enumerate, walks over dicts, join, own calls, a def by its body. -/
namespace EV
open PySem PySem.Spec L2

/-! ### dict comprehensions, keys tuples -/
def dcLoop (vs : List Nat) (g : WG) (tt : WT) (wk wv : WE) (R : OT → Env' → Prop) : List D → List (List Key × D) → Env' → Prop
  | [], acc, Γ => R (.dT acc) Γ
  | d :: ds, acc, Γ => g (.sh d) Γ fun Γ1 => tt Γ1 fun b Γ2 => if b = true then wk Γ2 fun tk Γ3 => wv Γ3 fun tv Γ4 => ∃ ks : List Key, tk = .sh (.tup (ks.map keyD)) ∧ acc.length < sizeLine ∧ dcLoop vs g tt wk wv R ds (putG acc ks tv.val) (wipeE Γ4 vs) else dcLoop vs g tt wk wv R ds acc (wipeE Γ2 vs)
def wDcT (vs : List Nat) (wi : WA) (g : WG) (tt : WT) (wk wv : WE) : WE := fun Γ R => wi Γ fun ds Γ1 => dcLoop vs g tt wk wv R ds [] (wipeE Γ1 vs)
theorem dcLoop_mono {vs : List Nat} {g : WG} {tt : WT} {wk wv : WE} (hg : ∀ t Γ (P P' : Env' → Prop), (∀ Γ', P Γ' → P' Γ') → g t Γ P → g t Γ P') (ht : MonoT tt) (hk : MonoE wk) (he : MonoE wv) {R R' : OT → Env' → Prop} (i : ∀ t Γ, R t Γ → R' t Γ) : ∀ ds acc Γ, dcLoop vs g tt wk wv R ds acc Γ → dcLoop vs g tt wk wv R' ds acc Γ
  | [], _, _, q => i _ _ q
  | d :: ds, acc, Γ, q => hg _ _ _ _ (fun Γ1 q1 => ht _ _ _ (fun b Γ2 q2 => by
    cases b with
    | true => exact hk _ _ _ (fun tk Γ3 q3 => he _ _ _ (fun tv Γ4 ⟨ks, e, l, q4⟩ => ⟨ks, e, l, dcLoop_mono hg ht hk he i ds _ _ q4⟩) q3) q2
    | false => exact dcLoop_mono hg ht hk he i ds _ _ q2) q1) q
theorem dcT_ok {K : PySem.W.Frag} {vs js : List Nat} {wi : WA} {g : WG} {tt : WT} {wk wv : WE} (hi : MonoA wi) (hg : ∀ t Γ (P P' : Env' → Prop), (∀ Γ', P Γ' → P' Γ') → g t Γ P → g t Γ P') (ht : MonoT tt) (hk : MonoE wk) (he : MonoE wv) (sub : ∀ j ∈ js, j ∈ vs) (σ : St) (H : Hp) (Q : VK)
    (h : LE K (wDcT vs wi g tt wk wv) σ H Q) : tDcT (LI K wi) (LG K g js) (LT K tt) (LU K wk) (LE K wv) vs σ H Q := by
  obtain ⟨H0, M0, F, Γ, O, st, hw⟩ := h
  refine ⟨H0, M0, F, Γ, O, st, hi _ _ _ (fun ds Γ1 q1 J H1 O1 c hJ p hp => ?_) hw⟩
  have f0 : Fill K H1 F O1 p Γ1 σ (upd H1 p (.dT [])) O1 := .start c.st hp
  refine ⟨fun i m H' => m = ds.length - i ∧ i ≤ ds.length ∧ ∃ Γ' O' acc xs, Fill K H1 F O1 p (wipeE Γ' vs) (wipe σ vs) H' O' ∧ H' p = some (.dT xs) ∧ acc.map (·.1) = xs.map (·.1) ∧ Reps K H' ((F ++ [p]) ++ O') (acc.map (·.2)) (xs.map (·.2)) ∧
    dcLoop vs g tt wk wv (fun t Γ' => ∀ v H' Od O', Chn K H0 M0 F σ H O Γ' H' (F ++ Od) O' → (∀ a ∈ Od, a ∈ O ∨ H a = none) → RepO K H' ((F ++ Od) ++ O') t v Od → Q v H') (ds.drop i) acc (wipeE Γ' vs), ⟨ds.length, ?_⟩, ?_⟩
  · obtain ⟨O2, st2, sb2⟩ := f0.st.wiped vs
    exact ⟨by simp, Nat.zero_le _, Γ1, O2, [], [], ⟨st2, f0.same, fun a m => f0.sub a (sb2 a m)⟩, upd_same, rfl, .nil, by simpa using q1⟩
  · rintro i m H' ⟨rfl, hi', Γ', O', acc, xs, f, hpx, ek, rs, q⟩
    obtain ⟨go, stop, yl⟩ := hJ _ _ (f.later c.st hp)
    by_cases hlt : i < ds.length
    · obtain ⟨d, hd⟩ : ∃ d, ds[i]? = some d := ⟨ds[i], by simp [hlt]⟩
      have ed : ds.drop i = d :: ds.drop (i + 1) := by
        rw [List.drop_eq_getElem_cons hlt]
        have : ds[i] = d := by simpa [hlt] using hd
        rw [this]
      rw [ed] at q
      refine .inr ⟨go i hlt, fun H' => ∃ Γ' O' acc xs, Fill K H1 F O1 p (wipeE Γ' vs) (wipe σ vs) H' O' ∧ H' p = some (.dT xs) ∧ acc.map (·.1) = xs.map (·.1) ∧ Reps K H' ((F ++ [p]) ++ O') (acc.map (·.2)) (xs.map (·.2)) ∧
        dcLoop vs g tt wk wv (fun t Γ' => ∀ v H' Od O', Chn K H0 M0 F σ H O Γ' H' (F ++ Od) O' → (∀ a ∈ Od, a ∈ O ∨ H a = none) → RepO K H' ((F ++ Od) ++ O') t v Od → Q v H') (ds.drop (i + 1)) acc (wipeE Γ' vs), fun H' hn => ⟨ds.length - (i + 1), by omega, rfl, hlt, hn⟩, fun x H2 y => ?_⟩
      obtain ⟨same2, rx⟩ := yl i x H2 d hd y
      have x2 : Ext ((F ++ [p]) ++ O') H' ((F ++ [p]) ++ O') H2 := .of_same same2 fun a m => .inl m
      have st2 : SOk K H1 O1 (F ++ [p]) (wipeE Γ' vs) (wipe σ vs) H2 O' := ⟨f.st.rep.ext x2 fun a _ o e => same2 a o e, f.st.nd, f.st.dj, fun a m => (f.st.trk a m).imp fun o e => same2 a o e, fun a o e m => same2 a o (f.st.keep a o e m), f.st.own⟩
      refine ⟨H1, O1, F ++ [p], wipeE Γ' vs, O', .sh d, [], st2.nilF, fun _ m => (nomatch m), List.nodup_nil, fun _ m => (nomatch m), .sh (by simpa using rx), hg _ _ _ _ (fun Γ3 q3 σ3 O3 st3 sb3 on3 => ?_) q⟩
      have sb3' : ∀ a ∈ O3, a ∈ O' := fun a m => (sb3 a m).elim id fun z => nomatch z
      have ew := wipe_only on3 sub
      refine ⟨ew, H1, O1, F ++ [p], Γ3, O3, st3, ht _ _ _ (fun b Γ4 q4 H4 O4 c4 => ?_) q3⟩
      have rs2 := rs.ext x2
      have sames4 : ∀ a o, H' a = some o → H4 a = some o := fun a o e => c4.same a o (same2 a o e)
      have x3 : Ext ((F ++ [p]) ++ O') H2 ((F ++ [p]) ++ O3) H2 := .sub fun a m => by
        rcases List.mem_append.mp m with m | m
        · exact List.mem_append_left _ m
        · exact List.mem_append_right _ (sb3' a m)
      have rs4 := (rs2.ext x3).ext c4.ext
      have fin : ∀ {Γ5 : Env'} {H5 : Hp} {O5 : List Addr}, SOk K H1 O1 (F ++ [p]) Γ5 σ3 H5 O5 → (∀ a o, H1 a = some o → H5 a = some o) → (∀ a ∈ O5, a ∈ O1) → ∃ O6, Fill K H1 F O1 p (wipeE Γ5 vs) (wipe σ vs) H5 O6 ∧ ∀ a ∈ O6, a ∈ O5 := fun {Γ5 H5 O5} st5 s5 b5 => by
        obtain ⟨O6, st6, sb6⟩ := st5.wiped vs
        rw [ew] at st6
        exact ⟨O6, ⟨st6, s5, fun a m => b5 a (sb6 a m)⟩, sb6⟩
      cases b with
      | false =>
        obtain ⟨O6, f6, sb6⟩ := fin c4.st (fun a o e => sames4 a o (f.same a o e)) (fun a m => f.sub a (sb3' a (c4.sub a m)))
        exact ⟨Γ4, O6, acc, xs, f6, sames4 p _ hpx, ek, rs4.less sb6, q4⟩
      | true =>
        refine ⟨H1, O1, F ++ [p], Γ4, O4, c4.st, hk _ _ _ (fun tk Γ5 q5 vk H5 F5 B5 O5 c5 r5 => ?_) q4⟩
        refine ⟨H1, O1, F5, Γ5, O5, c5.st, he _ _ _ (fun tv Γ6 ⟨ks, etk, l6, q6⟩ v6 H6 Od O6 c6 fr6 r6 => ?_) q5⟩
        have rd := c6.dropped c5.st fr6 r6
        have cb6 := c6.base
        have cc := (c5.trans cb6).base
        have rk := r5.ext cb6.ext fun a _ o e => cb6.same a o e
        subst etk
        obtain ⟨b, rfl, hb⟩ : ∃ b, vk = .ref b ∧ H6 b = some (.tup (ks.map kV)) := by
          cases rk with
          | sh z =>
            cases z with
            | tup h1 qk => exact ⟨_, rfl, by rw [h1, qk.keys]⟩
        have same6 : ∀ a o, H' a = some o → H6 a = some o := fun a o e => cc.same a o (sames4 a o e)
        obtain ⟨O7, f7, sb7⟩ := fin cc.st (fun a o e => same6 a o (f.same a o e)) (fun a m => f.sub a (sb3' a (c4.sub a (cc.sub a m))))
        have rs6 := rs4.ext cc.ext
        have hp6 := same6 p _ hpx
        have rd' : Rep K H6 ((F ++ [p]) ++ O7) tv.val v6 := rd.ext (.sub fun a m => by
          rcases List.mem_append.mp m with m | m
          · exact List.mem_append_left _ (cc.inc a m |> fun z => (c5.inc a z))
          · exact List.mem_append_right _ (sb7 a m))
        obtain ⟨p1, p2⟩ := putG_rep ks rd' ek (rs6.less sb7)
        obtain ⟨f8, x8⟩ := f7.upd (o := .dT (putK xs ks v6)) hp (fun vs z => by rw [hp6] at z; exact nomatch z)
        exact ⟨xs, ks, b, rfl, hb, hp6, by rw [← keys_len ek]; exact l6, Γ6, O7, putG acc ks tv.val, putK xs ks v6, f8, upd_same, p1, p2.ext x8, q6⟩
    · have e : i = ds.length := by omega
      subst e
      rw [List.drop_length] at q
      have f' : Fill K H1 F O1 p (wipeE Γ' vs) σ H' O' := ⟨f.st.unwiped, f.same, f.sub⟩
      obtain ⟨cc, fr⟩ := f'.done c hp
      exact .inl ⟨stop, q _ _ _ _ cc fr (.dT hpx ek rs)⟩
section
variable {X : Cx} {kx vx tg iter : Expr} {ifs : List Expr} {scope : Scope} {own : List (Str × Nat)} {js : List Nat} {pos : Pos} {wi : WA} {g : WG} {tt : WT} {wk wv : WE} {st : Stmt} {i : Nat}
theorem wDcT_mono (hi : XI X tg iter wi) (hg : ∀ t Γ (P P' : Env' → Prop), (∀ Γ', P Γ' → P' Γ') → g t Γ P → g t Γ P') (ht : MonoT tt) (hk : MonoE wk) (he : MonoE wv) {vs : List Nat} : MonoE (wDcT vs wi g tt wk wv) := fun Γ P P' i q => hi.mono _ _ _ (fun ds Γ1 q1 => dcLoop_mono hg ht hk he i ds _ _ q1) q
theorem XE.dcT (hu : X.A.units + 1 < cLine) (hc : X.calm = true) (hN : X.N.Nodup) (hi : XI X tg iter wi) (ok : BlkOk X.N X.env.scope scope own) (hg : ∀ (s : Shared) (H : Hp) (C : Addr) (cl : List (Str × Addr)) (fp : List Addr), XG (X.blk s H scope (compEnvC scope cl C X.env) fp) tg g js)
    (ht : ∀ (s : Shared) (H : Hp) (C : Addr) (cl : List (Str × Addr)) (fp : List Addr), XTs (X.blk s H scope (compEnvC scope cl C X.env) fp) ifs tt) (hk : ∀ (s : Shared) (H : Hp) (C : Addr) (cl : List (Str × Addr)) (fp : List Addr), XU (X.blk s H scope (compEnvC scope cl C X.env) fp) kx wk)
    (he : ∀ (s : Shared) (H : Hp) (C : Addr) (cl : List (Str × Addr)) (fp : List Addr), XE (X.blk s H scope (compEnvC scope cl C X.env) fp) vx wv)
    (hgm : ∀ t Γ (P P' : Env' → Prop), (∀ Γ', P Γ' → P' Γ') → g t Γ P → g t Γ P') (htm : MonoT tt) (hkm : MonoE wk) (hem : MonoE wv) (sub : ∀ j ∈ js, j ∈ own.map (·.2)) (hs : ∀ x, foldedSetIterable iter X.env x = pure x) : XE X (.DictComp kx vx [⟨tg, iter, ifs, 0⟩] scope pos) (wDcT (own.map (·.2)) wi g tt wk wv) :=
  ⟨peW (pe_dcT hu hc hN hi.pi ok (fun s H C cl fp => (hg s H C cl fp).pg) (fun s H C cl fp => (ht s H C cl fp).pts) (fun s H C cl fp => (hk s H C cl fp).pe) (fun s H C cl fp => (he s H C cl fp).pe) hs) (dcT_ok hi.mono hgm htm hkm hem sub), wDcT_mono hi hgm htm hkm hem⟩
theorem XS.setDcT {y : Str} {py spos : Pos} (hu : X.A.units + 1 < cLine) (hc : X.calm = true) (hN : X.N.Nodup) (hy : X.N[i]? = some y) (hyl : X.env.scope.names.lookup y = some .local) (hsw : swapsWith (.DictComp kx vx [⟨tg, iter, ifs, 0⟩] scope pos) (some (.Name y py)) spos.line X.env = pure true)
    (hi : XI X tg iter wi) (ok : BlkOk X.N X.env.scope scope own) (hg : ∀ (s : Shared) (H : Hp) (C : Addr) (cl : List (Str × Addr)) (fp : List Addr), XG (X.blk s H scope (compEnvC scope cl C X.env) fp) tg g js)
    (ht : ∀ (s : Shared) (H : Hp) (C : Addr) (cl : List (Str × Addr)) (fp : List Addr), XTs (X.blk s H scope (compEnvC scope cl C X.env) fp) ifs tt) (hk : ∀ (s : Shared) (H : Hp) (C : Addr) (cl : List (Str × Addr)) (fp : List Addr), XU (X.blk s H scope (compEnvC scope cl C X.env) fp) kx wk)
    (he : ∀ (s : Shared) (H : Hp) (C : Addr) (cl : List (Str × Addr)) (fp : List Addr), XE (X.blk s H scope (compEnvC scope cl C X.env) fp) vx wv)
    (hgm : ∀ t Γ (P P' : Env' → Prop), (∀ Γ', P Γ' → P' Γ') → g t Γ P → g t Γ P') (htm : MonoT tt) (hkm : MonoE wk) (hem : MonoE wv) (sub : ∀ j ∈ js, j ∈ own.map (·.2)) (hs : ∀ x, foldedSetIterable iter X.env x = pure x) :
    XS X (.Assign [.Name y py] (.DictComp kx vx [⟨tg, iter, ifs, 0⟩] scope pos) spos) (wAsg (wDcT (own.map (·.2)) wi g tt wk wv) (gVar i)) :=
  .setBy (wDcT_mono hi hgm htm hkm hem) (ps_setDcT hu hc hN hy hyl hsw hi.pi ok (fun s H C cl fp => (hg s H C cl fp).pg) (fun s H C cl fp => (ht s H C cl fp).pts) (fun s H C cl fp => (hk s H C cl fp).pe) (fun s H C cl fp => (he s H C cl fp).pe) hs) (dcT_ok hi.mono hgm htm hkm hem sub)
/-- {t: v} -/
def wDisp (wk wv : WE) : WE := fun Γ R => wk Γ fun tk Γ1 => wv Γ1 fun tv Γ2 => ∃ ks : List Key, tk = .sh (.tup (ks.map keyD)) ∧ R (.dT [(ks, tv.val)]) Γ2
theorem XE.dispT {ke ve : Expr} (hu : X.A.units + 1 < cLine) (hk : XU X ke wk) (hv : XE X ve wv) : XE X (.Dict [some ke] [ve] pos) (wDisp wk wv) := by
  refine ⟨peW (pe_dispT hu hk.pe hv.pe) fun σ H Q => ?_, fun Γ P P' i q => hk.mono _ _ _ (fun tk Γ1 q1 => hv.mono _ _ _ (fun tv Γ2 ⟨ks, e, q2⟩ => ⟨ks, e, i _ _ q2⟩) q1) q⟩
  rintro ⟨H0, M0, F, Γ, O, st, hw⟩ p hp
  have f0 : Fill X.K H F O p Γ σ (upd H p (.dT [])) O := .start st hp
  refine ⟨H, O, F ++ [p], Γ, O, f0.st, hk.mono _ _ _ (fun tk Γ1 q1 vk H1 F1 B1 O1 c1 r1 => ?_) hw⟩
  refine ⟨H, O, F1, Γ1, O1, c1.st, hv.mono _ _ _ (fun tv Γ2 ⟨ks, e, q2⟩ v H2 Od O2 c2 fr r2 => ?_) q1⟩
  have rd := c2.dropped c1.st fr r2
  have cb := c2.base
  have rk := r1.ext cb.ext fun a _ o e => cb.same a o e
  subst e
  obtain ⟨b, rfl, hb⟩ : ∃ b, vk = .ref b ∧ H2 b = some (.tup (ks.map kV)) := by
    cases rk with
    | sh z =>
      cases z with
      | tup h1 qk => exact ⟨_, rfl, by rw [h1, qk.keys]⟩
  have f1 := f0.step (c1.trans cb).base
  have hp2 : H2 p = some (.dT []) := cb.same p _ (c1.same p _ upd_same)
  obtain ⟨f2, x2⟩ := f1.upd (o := .dT [(ks, v)]) hp (fun vs z => by rw [hp2] at z; exact nomatch z)
  obtain ⟨cc, fr2⟩ := f2.done (.refl st) hp
  refine ⟨hp2, b, ks, rfl, hb, q2 _ _ _ _ cc fr2 (.dT upd_same rfl ?_)⟩
  exact .cons ((rd.ext (.sub fun a m => by
    rcases List.mem_append.mp m with m | m
    · exact List.mem_append_left _ (c1.inc a m)
    · exact List.mem_append_right _ m)).ext x2) .nil
end
/-! ### enumerate -/
section
variable {X : Cx} {tg iter e : Expr} {ifs : List Expr} {pos : Pos} {wi : WA} {g : WG} {w : WE} {st : Stmt} {b1 : List Stmt} {u : WS} {i : Nat}
def enumD : Nat → List D → List D
  | _, [] => []
  | n, d :: ds => .tup [.int n, d] :: enumD (n + 1) ds
theorem enumD_length : ∀ (ds : List D) (n : Nat), (enumD n ds).length = ds.length
  | [], _ => rfl
  | _ :: ds, n => by simp [enumD, enumD_length ds]
theorem enumD_get : ∀ (ds : List D) (n i : Nat) (d : D), (enumD n ds)[i]? = some d → ∃ x, ds[i]? = some x ∧ d = .tup [.int ((n + i : Nat) : Int), x]
  | [], _, _, _, h => by simp [enumD] at h
  | x :: ds, n, 0, d, h => by simp [enumD] at h; exact ⟨x, rfl, by simp [h]⟩
  | x :: ds, n, i + 1, d, h => by
    simp only [enumD, List.getElem?_cons_succ] at h
    obtain ⟨y, h1, h2⟩ := enumD_get ds (n + 1) i d h
    refine ⟨y, by simpa using h1, ?_⟩
    rw [h2]
    congr 4
    omega
theorem iter_enum {K : PySem.W.Frag} {G : List Addr} {H : Hp} {p : Addr} {vs : List V} {ds : List D} (h : (Rd H p (.lst vs) ∧ p ∉ G) ∨ StaticL K p vs) (r : Reps K H G ds vs) : IterOk K (Ite K p) G H (enumD 0 ds) := by
  intro G1 H1 l
  have q := l.sqL h
  have hl := r.length
  rw [enumD_length]
  refine ⟨fun i hi => ?_, ⟨vs, q, by omega⟩, fun i x H2 d hd y => ?_⟩
  · have : i < vs.length := by omega
    exact ⟨vs, vs[i], q, by simp [this]⟩
  · obtain ⟨T, z, rfl, hT, rfl, y⟩ := y
    obtain ⟨d', e1, rfl⟩ := enumD_get _ _ _ _ hd
    obtain ⟨v, ev, rv⟩ := r.get e1
    have e := y vs q
    rw [ev] at e
    cases e
    refine ⟨fun a o e => by rw [upd_ne (ne_of_none e hT)]; exact e, .tup upd_same (.cons ?_ (.cons ((rv.ext l.ext).ext (ext_upd0 hT)) .nil))⟩
    rw [Nat.zero_add]
    exact .int _
def wiEnum (w : WE) : WA := fun Γ R => w Γ fun t Γ1 => ∃ ds, (t.val = .lst ds ∨ t.val = .fz ds) ∧ R (enumD 0 ds) Γ1
end
end EV

set_option maxHeartbeats 4000000
/-! Ev, part I: enumerate over lists and tuples. -/
namespace EV
open PySem PySem.Spec L2

theorem meets_enumerate_newTup (l : Addr) (items : Array Value) (n : Nat) (dct : Option Addr) (sl : Array (Option Value)) :
    Meets (Builtin.«enumerate.__new__» ⟨[.type "enumerate", .ref l], []⟩) (fun _ R s => s.heap.get? l = some { cls := .type "tuple", dict := dct, data := .seq items n, slots := sl } ∧
      R (.ok (.ret (.ref (s.heap.push { cls := .type "tuple_iterator", data := .fields #[.ref l, .int 0 0] }).objs.size)))
        { s with heap := (s.heap.push { cls := .type "tuple_iterator", data := .fields #[.ref l, .int 0 0] }).push { cls := .type "enumerate", data := .fields #[.none, .bool false, .ref s.heap.objs.size, rawInt 0, .none, .none] } }) :=
  .of_wp fun prog w A R s h => by
    obtain ⟨hp, g, d, tk, os⟩ := s; obtain ⟨hl, h⟩ := h
    have sub := sub_enumerate
    have hT : Heap.IsTuple (Shared.heap ⟨hp, g, d, tk, os⟩) l items := ⟨_, hl, rfl, n, rfl⟩
    wp_walk using AutoSeq1.wpAny_loadPart' hl
    refine wpAny_stack_any fun st => wpAny_pure ?_
    split
    · rename_i c _ _ _ _ _
      cases (c == Value.type "enumerate")
      · wp_walk using AutoSeq1.wpAny_loadPart' hl, wpAny_pyIter_tuple hT
        exact ⟨_, rfl, h⟩
      · wp_walk using AutoSeq1.wpAny_loadPart' hl, wpAny_pyIter_tuple hT
        exact ⟨_, rfl, h⟩
    · wp_walk using AutoSeq1.wpAny_loadPart' hl, wpAny_pyIter_tuple hT
      exact ⟨_, rfl, h⟩
theorem call_enumerate_tup {prog : Program} {w : World} {A : Around} {E : Value → Shared → Prop} {s : Shared} {l : Addr} {items : Array Value} {Q : Value → Shared → Prop} (hL : s.heap.IsTuple l items)
    (h : ∀ h', IsEnum h' (s.heap.objs.size + 1) s.heap.objs.size 0 .none → h'.IsTupleIter s.heap.objs.size l 0 → h'.objs.size = s.heap.objs.size + 2 →
      (∀ b o, s.heap.get? b = some o → h'.get? b = some o) → Q (.ref (s.heap.objs.size + 1)) { s with heap := h' }) :
    wpAny (model prog w) A (call (.type "enumerate") [.ref l]) Q E s := by
  obtain ⟨⟨c, dct, dt, sl⟩, hl, hc, n, hd⟩ := hL
  replace hc : c = .type "tuple" := hc
  replace hd : dt = .seq items n := hd
  subst hc hd
  refine callType_new F.called_enumerate (by decide) (F.typeCall_enumerate_1 _) (F.newCall_enumerate_1 _) (fun obj => F.args_object_init_2 obj _) F.entry_enumerate_new
    (meets_enumerate_newTup l items n dct sl) ⟨hl, ?_⟩
  generalize ho : ({ cls := .type "tuple_iterator", data := .fields #[.ref l, .int 0 0] } : Obj) = o1
  have hz : (s.heap.push o1).objs.size = s.heap.objs.size + 1 := Heap.size_push ..
  show _ ∧ _
  rw [hz]
  generalize he' : ({ cls := .type "enumerate", data := .fields #[.none, .bool false, .ref s.heap.objs.size, rawInt 0, .none, .none] } : Obj) = o2
  have he : IsEnum ((s.heap.push o1).push o2) (s.heap.objs.size + 1) s.heap.objs.size 0 .none := by
    have q := Heap.get?_push_size (s.heap.push o1) (o := o2) (by rw [← he']; rfl)
    rw [hz] at q
    rw [← he'] at q ⊢
    exact q
  refine ⟨⟨o2, by rw [← he'] at he ⊢; exact he, by rw [← he']⟩, h _ he ⟨o1, Heap.get?_push_of_some _ (Heap.get?_push_size _ (by rw [← ho]; rfl)), by rw [← ho]; exact ⟨rfl, rfl⟩⟩ (by rw [Heap.size_push, hz]) fun b o x => Heap.get?_push_of_some _ (Heap.get?_push_of_some _ x)⟩
/-- a tuple's items, each in a new pair -/
def ItEt (K : PySem.W.Frag) (a : Addr) : It :=
  ⟨fun i H => ∃ (xs : List V) (x : V), SqT K H a xs ∧ xs[i]? = some x, fun i H v H' => ∃ T x, v = .ref T ∧ H T = none ∧ H' = upd H T (.tup [.int (i : Nat), x]) ∧ ∀ xs, SqT K H a xs → xs[i]? = some x, fun i H => ∃ xs : List V, SqT K H a xs ∧ xs.length ≤ i⟩
theorem turn_enumT {P : Program} {w : World} {K : PySem.W.Frag} {elts : List Expr} {kk : Nat} {tpos : Pos} (a e it : Addr) (hea : e ≠ a) (hia : it ≠ a) :
    Turn P w K (.Tuple elts kk tpos) (ItEt K a) [e, it] e (fun i h => (∃ old, IsEnum h e it ((i : Nat) : Int) old) ∧ h.IsTupleIter it a i ∧ e ≠ it) where
  mem := by simp
  obj := fun i h st b hb => by
    obtain ⟨⟨old, he⟩, ⟨o, ho, hc, hd⟩, _⟩ := st
    have e' : b = e ∨ b = it := by simpa using hb
    rcases e' with z | z
    · rw [z]; exact ⟨_, he, fun v q => nomatch q⟩
    · rw [z]; exact ⟨o, ho, fun v q => by rw [hd] at q; cases q⟩
  keep := fun i h h' st k => let ⟨⟨old, he⟩, hi, hne⟩ := st; ⟨⟨old, k e (by simp) _ he⟩, hi.at fun o q => k it (by simp) o q, hne⟩
  item := by
    intro X hP hw hK hc i pins s σ H E I hf st hg
    subst hP hw hK
    obtain ⟨⟨old, he⟩, hit, hne⟩ := st
    obtain ⟨xs, x, hq, hx⟩ := hg
    obtain ⟨its, rv, p, hz⟩ := I.tuple hq
    obtain ⟨u, hu, ru⟩ := rv.get hx
    have pt : s.heap.IsTuple a its.toArray := p
    have hel : e < s.heap.objs.size := Heap.lt_size he
    have hil : it < s.heap.objs.size := by obtain ⟨_, q, _⟩ := hit; exact Heap.lt_size q
    have hlt : i < its.length := (List.getElem?_eq_some_iff.mp hu).1
    refine wpAny_pyNext_enum_itemD (.tuple (show X.A.in1.handled = none from I.ok.hd hc) it a (Ne.symm hia) its.toArray) he ⟨hit, pt⟩ (by simpa using hlt) hne (by simp [hne, hea]) fun y h' tk hy ho hst' hT hsz hk => ?_
    obtain rfl : y = u := by
      have q : its[i]? = some y := by simpa using hy
      rw [hu] at q
      exact (Option.some.inj q).symm
    refine ⟨_, rfl, wpAny_letOwnedTupleGo_enum (s := { s with heap := h', toks := tk + 1 }) ho fun h'' he' sb => ?_⟩
    have hT2 : h''.get? s.heap.objs.size = some { cls := .type "tuple", data := .seq #[.int i tk, y] } := (sb.2 _ (Nat.ne_of_gt hel)).trans hT
    have new : ObjOk X.prog X.w (upd H s.heap.objs.size (.tup [.int (i : Nat), x])) h'' s.heap.objs.size (.tup [.int (i : Nat), x]) :=
      ⟨by show 2 ≤ sizeLine; decide, [.int i tk, y], .cons ⟨_, rfl⟩ (.cons ru .nil), ⟨_, hT2, rfl, _, rfl⟩⟩
    have I1 : Inv X pins σ (upd H s.heap.objs.size (.tup [.int (i : Nat), x])) { s with heap := h'', toks := tk + 1 } :=
      I.turnedNew (ch := [e, it]) (fun b ob hb q => (sb.2 b (fun z => hb (by simp [z]))).trans (hk b ob (fun z => hb (by simp [z])) (fun z => hb (by simp [z])) q)) hf (Nat.le_refl _) new
    refine ⟨.ref s.heap.objs.size, _, I1, rfl, ⟨_, x, rfl, I.hok.fresh (Nat.le_refl _), rfl, fun ys hy => by rw [I.tuple_inj hy hq]; exact hx⟩, ⟨⟨y, ?_⟩, hst'.1.at fun o q => (sb.2 it (Ne.symm hne)).trans q, hne⟩, fun b hb => ?_⟩
    · have e1 : ((i + 1 : Nat) : Int) = (i : Int) + 1 := by omega
      rw [e1]; exact he'
    · have hb' : b < s.heap.objs.size := by
        have e' : b = e ∨ b = it := by simpa using hb
        rcases e' with z | z
        · rw [z]; exact hel
        · rw [z]; exact hil
      rw [upd_ne (Nat.ne_of_lt hb')]
      exact (hf b hb).1
  done := by
    intro X hP hw hK hc i pins s σ H E I hf st hg
    subst hP hw hK
    obtain ⟨⟨old, he⟩, hit, hne⟩ := st
    obtain ⟨xs, hq, hx⟩ := hg
    obtain ⟨its, rv, p, hz⟩ := I.tuple hq
    have pt : s.heap.IsTuple a its.toArray := p
    obtain ⟨f0, f1, f2, f3, f4, f5⟩ := hf it (by simp)
    have hl := rv.length
    have hT : s.TypeIs (.ref e) "enumerate" := ⟨_, he, rfl⟩
    unfold pyNext
    refine wpAny_bind (wpAny_attempt (wpAny_callSpecial?_slot (name := Str.ofString "__next__") hT F.slot_enumerate_next
      (wpAny_call_entry F.slot_enumerate_next hT F.entry_enumerate_next ?_ (F.args_enumerate_next_1 _))))
    show wpAny _ _ (field (.ref e) 2 >>= _) _ _ _
    refine wpAny_bind (wpAny_field he rfl (x := .ref it) rfl ?_)
    refine wpAny_bind (wpAny_nextOf_tuple_end (I.ok.hd hc) hit pt (by simp; omega) fun h' x he' hx' => ?_)
    obtain ⟨o, ho, hc'⟩ := hx'
    refine wpAny_bind (wpAny_isInstance (T := "StopIteration") (b := true) ⟨o, ho, hc'⟩ isSubtype_stop ?_)
    exact wpAny_pure ⟨rfl, I.turned (t' := s.toks) (fun b o hb q => he' b o hb q) f0 f1 f3 f4 f5⟩
  self := fun A i s Q E st h => let ⟨⟨_, he⟩, _⟩ := st; wpAny_pyIter_enum he h
theorem boot_en : bootBuiltins "enumerate" = some (.type "enumerate") := by decide +kernel
def iEnumT (K : PySem.W.Frag) (ta : TA) : TI := fun σ H R => ta σ H fun vs H1 => (∃ a xs, vs = [.ref a] ∧ SqL K H1 a xs ∧ R (Ite K a) H1) ∨ ∃ a xs, vs = [.ref a] ∧ SqT K H1 a xs ∧ R (ItEt K a) H1
theorem pi_enumT {X : Cx} {e : Expr} {ta : TA} {p pos tpos : Pos} {elts : List Expr} {kk : Nat} (hg : Gl X "enumerate") (hm : X.mg "enumerate" = none) (ha : PA X [e] ta) (hs : starEach [e] X.env = [(false, eval e X.env)] := by rfl) :
    PI X (.Tuple elts kk tpos) (.Call (.Name "enumerate" p) [e] [] pos) (iEnumT X.K ta) := by
  refine ⟨fun pins s σ H R I h => ?_⟩
  refine PyProof.Rows.Call_ (ld_blt I hg hm boot_en (PyProof.Rows.callWith_type1 (thn (ha.run pos pins s σ H _ I h) fun us s1 ⟨vs, H1, I1, r1, q1⟩ => ?_) hs rfl))
  have fresh : ∀ {H : Hp} {s1 : Shared}, Inv X pins σ H s1 → ∀ b, b ∈ [s1.heap.objs.size + 1, s1.heap.objs.size] → FpOk X pins H b := fun {H s1} I1 b hb => by
    have e' : b = s1.heap.objs.size + 1 ∨ b = s1.heap.objs.size := by simpa using hb
    have hle : s1.heap.objs.size ≤ b := by
      rcases e' with z | z
      · rw [z]; exact Nat.le_add_right _ _
      · rw [z]; exact Nat.le_refl _
    exact I1.fpOk hle (I1.hok.fresh hle)
  rcases q1 with ⟨a, xs, ex, hq, q⟩ | ⟨a, xs, ex, hq, q⟩
  · subst ex
    cases r1 with
    | cons r rr =>
      cases rr
      cases r
      obtain ⟨its, rv, p', hz⟩ := I1.list hq
      refine call_enumerate_list p'.isList fun h' he hit hsz hk => wpAny_pyIter_enum he ?_
      exact ⟨s1.heap.objs.size + 1, [s1.heap.objs.size + 1, s1.heap.objs.size], _, _, H1, rfl, I1.kept (t' := s1.toks) hk, turn_enum a (s1.heap.objs.size + 1) s1.heap.objs.size, ⟨⟨.none, he⟩, hit, Nat.succ_ne_self _⟩, fun b hb => fresh I1 b hb, q⟩
  · subst ex
    cases r1 with
    | cons r rr =>
      cases rr
      cases r
      obtain ⟨its, rv, p', hz⟩ := I1.tuple hq
      have pt : s1.heap.IsTuple a its.toArray := p'
      have hal : a < s1.heap.objs.size := by obtain ⟨_, q, _⟩ := pt; exact Heap.lt_size q
      refine call_enumerate_tup pt fun h' he hit hsz hk => wpAny_pyIter_enum he ?_
      exact ⟨s1.heap.objs.size + 1, [s1.heap.objs.size + 1, s1.heap.objs.size], _, _, H1, rfl, I1.kept (t' := s1.toks) hk, turn_enumT a (s1.heap.objs.size + 1) s1.heap.objs.size (Nat.ne_of_gt (Nat.lt_succ_of_lt hal)) (Nat.ne_of_gt hal), ⟨⟨.none, he⟩, hit, Nat.succ_ne_self _⟩, fun b hb => fresh I1 b hb, q⟩
theorem iter_enumT {K : PySem.W.Frag} {G : List Addr} {H : Hp} {p : Addr} {vs : List V} {ds : List D} (h : H p = some (.tup vs) ∨ StaticT K p vs) (r : Reps K H G ds vs) : IterOk K (ItEt K p) G H (enumD 0 ds) := by
  intro G1 H1 l
  have q : SqT K H1 p vs := h.elim (fun z => .inl (.inl (l.tups _ _ z))) .inr
  have hl := r.length
  rw [enumD_length]
  refine ⟨fun i hi => ?_, ⟨vs, q, by omega⟩, fun i x H2 d hd y => ?_⟩
  · have : i < vs.length := by omega
    exact ⟨vs, vs[i], q, by simp [this]⟩
  · obtain ⟨T, z, rfl, hT, rfl, y⟩ := y
    obtain ⟨d', e1, rfl⟩ := enumD_get _ _ _ _ hd
    obtain ⟨v, ev, rv⟩ := r.get e1
    have e := y vs q
    rw [ev] at e
    cases e
    refine ⟨fun a o e => by rw [upd_ne (ne_of_none e hT)]; exact e, .tup upd_same (.cons ?_ (.cons ((rv.ext l.ext).ext (ext_upd0 hT)) .nil))⟩
    rw [Nat.zero_add]
    exact .int _
/-- enumerate(x), x a list or a tuple -/
def wiEn (w : WE) : WA := fun Γ R => w Γ fun t Γ1 => ∃ ds, (t.val = .lst ds ∨ t.val = .fz ds ∨ t.val = .tup ds ∨ t.val = .stc ds) ∧ R (enumD 0 ds) Γ1
theorem XI.enum {X : Cx} {e : Expr} {w : WE} {p pos tpos : Pos} {elts : List Expr} {kk : Nat} (hg : Gl X "enumerate") (hm : X.mg "enumerate" = none) (h : XE X e w) (hs : starEach [e] X.env = [(false, eval e X.env)] := by rfl) :
    XI X (.Tuple elts kk tpos) (.Call (.Name "enumerate" p) [e] [] pos) (wiEn w) := by
  refine ⟨piW (pi_enumT hg hm (pa_cons h.pe pa_nil hs) hs) fun σ H R => ?_, fun Γ P P' i q => h.mono _ _ _ (fun t Γ1 ⟨ds, e, q1⟩ => ⟨ds, e, i _ _ q1⟩) q⟩
  rintro ⟨H0, M0, F, Γ, O, st, hw⟩
  refine ⟨H0, M0, F, Γ, O, st, h.mono _ _ _ (fun t Γ1 ⟨ds, e, q1⟩ v H1 Od O1 c fr r => ?_) hw⟩
  have rd := c.dropped st fr r
  rcases e with e | e | e | e
  · rw [e] at rd
    cases rd with
    | lst h1 h2 h3 => exact .inl ⟨_, _, rfl, .inl (.inl h1), q1 _ _ _ c.base (iter_enum (.inl ⟨.inl h1, h2⟩) h3)⟩
  · rw [e] at rd
    cases rd with
    | fz h1 h3 => exact .inl ⟨_, _, rfl, sqL_of h1, q1 _ _ _ c.base (iter_enum h1 h3)⟩
  · rw [e] at rd
    cases rd with
    | tup h1 h3 => exact .inr ⟨_, _, rfl, .inl (.inl h1), q1 _ _ _ c.base (iter_enumT (.inl h1) h3)⟩
  · rw [e] at rd
    cases rd with
    | tupK h1 h3 => exact .inr ⟨_, _, rfl, .inr h1, q1 _ _ _ c.base (iter_enumT (.inr h1) h3)⟩
end EV

set_option maxHeartbeats 4000000
/-! Ev, part J: walks over a dict's keys, join, own calls, new instances, a def by its body. -/
namespace EV
open PySem PySem.Spec L2

/-! ### a slot's value shared -/
theorem SOk.share {K : PySem.W.Frag} {H0 : Hp} {M0 F : List Addr} {Γ : Env'} {σ : St} {H : Hp} {O : List Addr} {i : Nat} {t : OT} (st : SOk K H0 M0 F Γ σ H O) (et : Γ[i]? = some (some t)) :
    ∃ v O', σ[i]? = some (some v) ∧ SOk K H0 M0 F (Γ.set i (some (.sh t.val))) σ H O' ∧ (∀ a ∈ O', a ∈ O) ∧ Rep K H (F ++ O') t.val v := by
  obtain ⟨v, P, O1, S, h1, h2, h3, h4⟩ := st.rep.at et
  have nd := st.nd
  rw [h3] at nd
  have sb : ∀ a, a ∈ P ++ [] ++ S → a ∈ O := fun a m => by rw [h3]; simp at m ⊢; rcases m with m | m <;> simp [m]
  have x : Ext (F ++ O) H (F ++ (P ++ [] ++ S)) H := .sub fun a m => by
    rcases List.mem_append.mp m with m | m
    · exact List.mem_append_left _ m
    · exact List.mem_append_right _ (sb a m)
  have hn : ∀ a ∈ O1, a ∉ F ++ (P ++ [] ++ S) := fun a m z => by
    rcases List.mem_append.mp z with z | z
    · exact st.dj a (by rw [h3]; simp [m]) z
    · simp only [List.append_assoc, List.nil_append, List.nodup_append] at nd z
      simp only [List.mem_append] at z
      rcases z with z | z
      · exact nd.2.2 a z a (List.mem_append_left _ m) rfl
      · exact nd.2.1.2.2 a m a z rfl
  have rd := h2.drop x hn
  have re := h4 H (F ++ (P ++ [] ++ S)) (some (.sh t.val)) v [] x (fun _ _ _ e => e) (fun t2 e2 => by cases e2; exact .sh rd) (fun e2 => nomatch e2)
  have es : σ.set i (some v) = σ := by
    refine List.ext_getElem? fun j => ?_
    by_cases hj : i = j
    · subst hj
      rw [List.getElem?_set_self (List.getElem?_eq_some_iff.mp h1).1, h1]
    · rw [List.getElem?_set_ne hj]
  rw [es] at re
  refine ⟨v, P ++ [] ++ S, h1, ⟨by simpa using re, ?_, fun a m z => st.dj a (sb a m) z, fun a m => st.trk a ?_, st.keep, fun a m => st.own a (sb a m)⟩, sb, rd⟩
  · simp only [List.append_assoc, List.nil_append, List.nodup_append] at nd ⊢
    exact ⟨nd.1, nd.2.1.2.1, fun a m b mb => nd.2.2 a m b (List.mem_append_right _ mb)⟩
  · rcases List.mem_append.mp m with m | m
    · exact List.mem_append_left _ m
    · exact List.mem_append_right _ (sb a m)
theorem Reps.ofKeys {K : PySem.W.Frag} {G : List Addr} {H : Hp} : ∀ (ks : List Key), Reps K H G (ks.map keyD) (ks.map kV)
  | [] => .nil
  | .inl i :: ks => .cons (.int i) (Reps.ofKeys ks)
  | .inr x :: ks => .cons (.str x) (Reps.ofKeys ks)
theorem Rep.ofKey {K : PySem.W.Frag} {G : List Addr} {H : Hp} : ∀ (k : Key), Rep K H G (keyD k) (kV k)
  | .inl i => .int i
  | .inr x => .str x
/-! ### for x in d, d a dict -/
def D.keys : D → Option (List D)
  | .dK kvs => some (kvs.map fun p => keyD p.1)
  | .dT kvs => some (kvs.map fun p => .tup (p.1.map keyD))
  | _ => none
theorem map_at {α β : Type} {ks : List α} {ws : List β} {γ : Type} {f : α → γ} {g : β → γ} (e : ks.map f = ws.map g) {i : Nat} {a : α} {b : β} (ha : ks[i]? = some a) (hb : ws[i]? = some b) : f a = g b := by
  have q : (ks.map f)[i]? = (ws.map g)[i]? := by rw [e]
  rw [List.getElem?_map, List.getElem?_map, ha, hb] at q
  exact Option.some.inj q
theorem iter_keysK {K : PySem.W.Frag} {G : List Addr} {H : Hp} {d : Addr} {o : Obj} {kvs : List (Key × V)} {ds : List (Key × D)} (h : H d = some (.frz o (.dK kvs))) (hg : d ∉ G) (e : ds.map (·.1) = kvs.map (·.1)) : IterOk K (Itk d o kvs) G H (ds.map fun p => keyD p.1) := by
  intro G1 H1 l
  have hl : ds.length = kvs.length := by have := congrArg List.length e; simpa using this
  have q := l.keep _ _ hg h
  rw [List.length_map]
  refine ⟨fun i hi => ⟨q, by omega⟩, ⟨q, by omega⟩, fun i x H2 dd hd y => ?_⟩
  obtain ⟨rfl, k, v, hkv, rfl⟩ := y
  rw [List.getElem?_map] at hd
  obtain ⟨p, hp, rfl⟩ := Option.map_eq_some_iff.mp hd
  refine ⟨fun _ _ e => e, ?_⟩
  rw [show p.1 = k from map_at e hp hkv]
  exact .ofKey k
theorem iter_keysT {K : PySem.W.Frag} {G : List Addr} {H : Hp} {d : Addr} {o : Obj} {kvs : List (List Key × V)} {ds : List (List Key × D)} (h : H d = some (.frz o (.dT kvs))) (hg : d ∉ G) (e : ds.map (·.1) = kvs.map (·.1)) : IterOk K (Itkt d o kvs) G H (ds.map fun p => .tup (p.1.map keyD)) := by
  intro G1 H1 l
  have hl : ds.length = kvs.length := by have := congrArg List.length e; simpa using this
  have q := l.keep _ _ hg h
  rw [List.length_map]
  refine ⟨fun i hi => ⟨q, by omega⟩, ⟨q, by omega⟩, fun i x H2 dd hd y => ?_⟩
  obtain ⟨rfl, k, v, a, hkv, rfl, ha⟩ := y
  rw [List.getElem?_map] at hd
  obtain ⟨p, hp, rfl⟩ := Option.map_eq_some_iff.mp hd
  refine ⟨fun _ _ e => e, ?_⟩
  rw [show p.1 = k from map_at e hp hkv]
  exact .tup ha (.ofKeys k)
/-- a lock is opened: the state at its end -/
theorem SOk.unlock {K : PySem.W.Frag} {H0 : Hp} {M0 F : List Addr} {Γ Γ' : Env'} {σ σ' : St} {H H' : Hp} {O O' : List Addr} {d : Addr} {u : HO} {od : Obj} (hu : dictObj u) (st : SOk K H0 M0 F Γ σ H O) (hd : H d = some u) (hdO : d ∉ O) (s' : SOk K (upd H d (.frz od u)) O F Γ' σ' H' O') :
    H' d = some (.frz od u) ∧ SOk K H0 M0 F Γ' σ' (upd H' d u) O' := by
  have e1 : H' d = some (.frz od u) := s'.keep d _ upd_same hdO
  have hz : unfz u = u := by cases u <;> first | rfl | exact hu.elim
  have x : Ext (F ++ O') H' (F ++ O') (upd H' d u) := by
    refine ⟨fun a o hg e => ?_, fun a vs e => ?_, fun a m => .inl m⟩
    · by_cases z : a = d
      · subst z
        rw [e1] at e
        cases e
        exact ⟨u, upd_same, .inr ⟨hu, hz⟩⟩
      · exact ⟨o, by rw [upd_ne z]; exact e, .inl rfl⟩
    · have z : a ≠ d := fun z => by subst z; rw [e1] at e; cases e
      rw [upd_ne z]; exact e
  have hdO' : d ∉ O' := fun m => by
    rcases s'.own d m with y | y
    · exact hdO y
    · rw [upd_same] at y; cases y
  refine ⟨e1, ⟨s'.rep.ext x fun a m o e => ?_, s'.nd, s'.dj, fun a m => ?_, fun a o e hm => ?_, fun a m => ?_⟩⟩
  · rw [upd_ne (fun z : a = d => hdO' (by rw [← z]; exact m))]; exact e
  · by_cases z : a = d
    · subst z; exact ⟨_, upd_same⟩
    · obtain ⟨o, e⟩ := s'.trk a m
      exact ⟨o, by rw [upd_ne z]; exact e⟩
  · have eH := st.keep a o e hm
    by_cases z : a = d
    · subst z
      rw [hd] at eH
      cases eH
      exact upd_same
    · rw [upd_ne z]
      refine s'.keep a o (by rw [upd_ne z]; exact eH) fun m => ?_
      rcases st.own a m with y | y
      · exact hm y
      · rw [y] at e; cases e
  · refine st.later ((s'.own a m).imp id fun y => ?_)
    by_cases z : a = d
    · subst z; rw [upd_same] at y; cases y
    · rw [upd_ne z] at y; exact y
theorem RtPost.unlock {K : PySem.W.Frag} {H0 : Hp} {M0 F : List Addr} {Γ : Env'} {σ : St} {H H' : Hp} {O Od : List Addr} {d : Addr} {u : HO} {od : Obj} {t : OT} {v : V} (hu : dictObj u) (st : SOk K H0 M0 F Γ σ H O) (hd : H d = some u) (hdO : d ∉ O) (s' : RtPost K (upd H d (.frz od u)) O F t v H' Od) :
    H' d = some (.frz od u) ∧ RtPost K H0 M0 F t v (upd H' d u) Od := by
  have e1 : H' d = some (.frz od u) := s'.keep d _ upd_same hdO
  have hz : unfz u = u := by cases u <;> first | rfl | exact hu.elim
  have x : Ext (F ++ Od) H' (F ++ Od) (upd H' d u) := by
    refine ⟨fun a o hg e => ?_, fun a vs e => ?_, fun a m => .inl m⟩
    · by_cases z : a = d
      · subst z
        rw [e1] at e
        cases e
        exact ⟨u, upd_same, .inr ⟨hu, hz⟩⟩
      · exact ⟨o, by rw [upd_ne z]; exact e, .inl rfl⟩
    · have z : a ≠ d := fun z => by subst z; rw [e1] at e; cases e
      rw [upd_ne z]; exact e
  have hdO' : d ∉ Od := fun m => by
    rcases s'.own d m with y | y
    · exact hdO y
    · rw [upd_same] at y; cases y
  refine ⟨e1, ⟨s'.rep.ext x fun a m o e => ?_, s'.dj, fun a m => ?_, fun a o e hm => ?_, fun a m => ?_⟩⟩
  · rw [upd_ne (fun z : a = d => hdO' (by rw [← z]; exact m))]; exact e
  · by_cases z : a = d
    · subst z; exact ⟨_, upd_same⟩
    · obtain ⟨o, e⟩ := s'.trk a m
      exact ⟨o, by rw [upd_ne z]; exact e⟩
  · have eH := st.keep a o e hm
    by_cases z : a = d
    · subst z
      rw [hd] at eH
      cases eH
      exact upd_same
    · rw [upd_ne z]
      refine s'.keep a o (by rw [upd_ne z]; exact eH) fun m => ?_
      rcases st.own a m with y | y
      · exact hm y
      · rw [y] at e; cases e
  · refine st.later ((s'.own a m).imp id fun y => ?_)
    by_cases z : a = d
    · subst z; rw [upd_same] at y; cases y
    · rw [upd_ne z] at y; exact y
/-- .. and shut -/
theorem SOk.lock {K : PySem.W.Frag} {H0 : Hp} {M0 F : List Addr} {Γ : Env'} {σ : St} {H : Hp} {O : List Addr} {d : Addr} {u : HO} (hu : dictObj u) (st : SOk K H0 M0 F Γ σ H O) (hd : H d = some u) (hdO : d ∉ O) (od : Obj) : SOk K (upd H d (.frz od u)) O F Γ σ (upd H d (.frz od u)) O := by
  have hz : unfz u = u := by cases u <;> first | rfl | exact hu.elim
  have x : Ext (F ++ O) H (F ++ O) (upd H d (.frz od u)) := by
    refine ⟨fun a o hg e => ?_, fun a vs e => ?_, fun a m => .inl m⟩
    · by_cases z : a = d
      · subst z
        rw [hd] at e
        cases e
        exact ⟨_, upd_same, .inr ⟨by rw [hz]; exact hu, by rw [hz]; rfl⟩⟩
      · exact ⟨o, by rw [upd_ne z]; exact e, .inl rfl⟩
    · have z : a ≠ d := fun z => by subst z; rw [hd] at e; cases e; exact hu
      rw [upd_ne z]; exact e
  refine ⟨st.rep.ext x fun a m o e => ?_, st.nd, st.dj, fun a m => ?_, fun _ _ e _ => e, fun _ m => .inl m⟩
  · rw [upd_ne (fun z : a = d => hdO (by rw [← z]; exact m))]; exact e
  · by_cases z : a = d
    · subst z; exact ⟨_, upd_same⟩
    · obtain ⟨o, e⟩ := st.trk a m
      exact ⟨o, by rw [upd_ne z]; exact e⟩
section
variable {X : Cx} {a b c e tg iter : Expr} {es : List Expr} {wa wb wc w : WE} {wr wi : WA} {tc : WT} {pos : Pos} {st : Stmt} {rest b1 b2 : List Stmt} {u v : WS} {g : WG} {js : List Nat} {i : Nat}
theorem psOr {t t' : TS} (h : PS X st t) (h' : PS X st t') : PS X st (fun D σ H => t D σ H ∨ t' D σ H) := ⟨fun pins s σ H D I q => q.elim (h.run pins s σ H D I) (h'.run pins s σ H D I)⟩
def wForK (i : Nat) (g : WG) (b : WS) : WS := fun W Γ => ∃ t ds, Γ[i]? = some (some t) ∧ t.val.keys = some ds ∧ wLoop g b W ds (Γ.set i (some (.sh t.val)))
/-- from a dict locked -/
theorem keys_loop {F : List Addr} {Γ : Env'} {σ : St} {H : Hp} {O : List Addr} {p : Addr} {dd : D} {ds : List D} {D : Ends} (hgm : ∀ t Γ (P P' : Env' → Prop), (∀ Γ', P Γ' → P' Γ') → g t Γ P → g t Γ P') (hb : MonoS u) (s0 : SOk X.K H O F Γ σ H O) (hv : σ[i]? = some (some (.ref p))) (hp : p ∉ F ++ O) (hk : dd.keys = some ds)
    (ho : ∃ od, (∃ kvs, H p = some (.frz od (.dK kvs)) ∧ ∃ es, dd = .dK es ∧ es.map (·.1) = kvs.map (·.1)) ∨ ∃ kvs, H p = some (.frz od (.dT kvs)) ∧ ∃ es, dd = .dT es ∧ es.map (·.1) = kvs.map (·.1))
    (q : wLoop g u (liftW X.K H O F D) ds Γ) : tFor (iKeys (tVar i)) (LG X.K g js) (LS X.K u) D σ H := by
  refine ⟨.ref p, hv, ?_⟩
  obtain ⟨od, ho⟩ := ho
  refine ⟨p, od, rfl, ?_⟩
  rcases ho with ⟨kvs, hp', es, rfl, e⟩ | ⟨kvs, hp', es, rfl, e⟩
  · cases hk
    exact .inl ⟨kvs, hp', loop_ok rfl hgm hb s0 (iter_keysK hp' hp e) D q⟩
  · cases hk
    exact .inr ⟨kvs, hp', loop_ok rfl hgm hb s0 (iter_keysT hp' hp e) D q⟩
theorem XS.forK (hpo : PassesOwn (model X.prog X.w) X.A X.env X.xe) (hc : X.calm = true) (hi : PE X iter (tVar i)) (hg : XG X tg g js) (hb : XSs X b1 u) (hs : ∀ x, foldedSetIterable iter X.env x = pure x) : XS X (.For tg iter b1 [] pos) (wForK i g u) := by
  have base := ps_for hpo hc (pi_keys (tg := tg) hi) hg.pg hb.ps hs (pos := pos)
  refine ⟨psW (psOr base (ps_lock base)) fun D σ H => ?_, fun W W' Γ l ⟨t, ds, e, ek, q⟩ => ⟨t, ds, e, ek, wLoop_mono hg.mono hb.mono l _ _ q⟩⟩
  rintro ⟨H0, M0, F, Γ, O, st, t, ds, et, ek, q⟩
  obtain ⟨v, O1, hv, st1, sb, rv⟩ := st.share et
  have plain : ∀ {p : Addr} {uo : HO}, v = .ref p → dictObj uo → H p = some uo → p ∉ F ++ O1 →
      (∀ od, (∃ kvs, (upd H p (.frz od uo)) p = some (.frz od (.dK kvs)) ∧ ∃ es, t.val = .dK es ∧ es.map (·.1) = kvs.map (·.1)) ∨ ∃ kvs, (upd H p (.frz od uo)) p = some (.frz od (.dT kvs)) ∧ ∃ es, t.val = .dT es ∧ es.map (·.1) = kvs.map (·.1)) →
      tLock (tFor (iKeys (tVar i)) (LG X.K g js) (LS X.K u)) D σ H := fun {p uo} ev hu hp hg' h2 => by
    subst ev
    have hdO : p ∉ O1 := fun m => hg' (List.mem_append_right _ m)
    refine ⟨p, uo, hp, ?_, fun od => ?_⟩
    · cases uo <;> first | exact trivial | exact hu.elim
    · have s0 := st1.lock hu hp hdO od
      refine keys_loop hg.mono hb.mono s0 hv hg' ek ⟨od, h2 od⟩ (wLoop_mono hg.mono hb.mono ?_ _ _ q)
      refine ⟨fun Γ' q σ' H' O' s' => ?_, fun t' q v' H' Od p' => ?_, fun Γ' q σ' H' O' s' => ?_, fun Γ' q σ' H' O' s' => ?_⟩
      · obtain ⟨e1, e2⟩ := SOk.unlock hu st1 hp hdO s'
        exact ⟨e1, q _ _ _ e2⟩
      · obtain ⟨e1, e2⟩ := RtPost.unlock hu st1 hp hdO p'
        exact ⟨e1, q _ _ _ e2⟩
      · obtain ⟨e1, e2⟩ := SOk.unlock hu st1 hp hdO s'
        exact ⟨e1, q _ _ _ e2⟩
      · obtain ⟨e1, e2⟩ := SOk.unlock hu st1 hp hdO s'
        exact ⟨e1, q _ _ _ e2⟩
  revert rv ek plain
  generalize hd0 : t.val = dd
  intro ek rv plain
  rw [hd0] at q st1
  cases rv with
  | dK h1 h2 h3 h4 =>
    rcases h1 with h1 | ⟨od, h1⟩
    · exact .inr (plain rfl (show dictObj (.dK _) from trivial) h1 h2 fun od => .inl ⟨_, upd_same, _, rfl, h3⟩)
    · exact .inl (keys_loop hg.mono hb.mono st1.here hv h2 ek ⟨od, .inl ⟨_, h1, _, rfl, h3⟩⟩ (wLoop_mono hg.mono hb.mono (liftW_back st1 D) _ _ q))
  | dT h1 h2 h3 h4 =>
    rcases h1 with h1 | ⟨od, h1⟩
    · exact .inr (plain rfl (show dictObj (.dT _) from trivial) h1 h2 fun od => .inr ⟨_, upd_same, _, rfl, h3⟩)
    · exact .inl (keys_loop hg.mono hb.mono st1.here hv h2 ek ⟨od, .inr ⟨_, h1, _, rfl, h3⟩⟩ (wLoop_mono hg.mono hb.mono (liftW_back st1 D) _ _ q))
  | _ => cases ek
end
end EV

set_option maxHeartbeats 4000000
/-! Ev, part K: join, own calls, new instances, a def by its body. -/
namespace EV
open PySem PySem.Spec L2

section
variable {X : Cx} {a b c e tg iter o : Expr} {es : List Expr} {wa wb wc w wo : WE} {wr wi : WA} {tc : WT} {pos apos : Pos} {st : Stmt} {rest b1 b2 : List Stmt} {u v : WS} {g : WG} {js : List Nat} {i : Nat}
/-! ### join -/
def textsD (ys : List Str) : List D := ys.map D.str
theorem Reps.strs {K : PySem.W.Frag} {G : List Addr} {H : Hp} : ∀ {ys : List Str} {vs : List V}, Reps K H G (textsD ys) vs → vs = ys.map V.str
  | [], _, r => by cases r; rfl
  | y :: ys, _, r => by
    cases r with
    | cons h t =>
      cases h
      rw [List.map_cons, Reps.strs t]
def fJoin : OT → OT → (OT → Prop) → Prop := fun t1 t2 P => ∃ (z : Str) (ys : List Str), t1 = .sh (.str z) ∧ (t2.asR = some (textsD ys) ∨ t2 = .sh (.tup (textsD ys))) ∧ (ys.map (·.length)).sum + ys.length * z.length ≤ 16777216 ∧ P (.sh (.str (Txt.join z ys)))
def wJoin (wo we : WE) : WE := fun Γ R => wo Γ fun t1 Γ1 => (∃ z, t1 = .sh (.str z)) ∧ we Γ1 fun t2 Γ2 => fJoin t1 t2 fun t => R t Γ2
theorem XE.join (ho : XU X o wo) (he : XU X e w) (hs : starEach [e] X.env = [(false, eval e X.env)] := by rfl) (hbase : attributeBase o "join" X.env (eval o X.env) = eval o X.env := by rfl) (hline : (apos.endLine == pos.line) = true := by rfl) :
    XE X (.Call (.Attribute o "join" apos) [e] [] pos) (wJoin wo w) := by
  refine ⟨peW (pe_join ho.pe he.pe hs hbase hline) fun σ H Q => ?_, fun Γ P P' i q => ho.mono _ _ _ (fun t1 Γ1 ⟨q0, q1⟩ => ⟨q0, he.mono _ _ _ (fun t2 Γ2 ⟨z, ys, h1, h2, h3, q2⟩ => ⟨z, ys, h1, h2, h3, i _ _ q2⟩) q1⟩) q⟩
  rintro ⟨H0, M0, F, Γ, O, st, hw⟩
  refine ⟨H0, M0, F, Γ, O, st, ho.mono _ _ _ (fun t1 Γ1 ⟨⟨z0, ez⟩, q1⟩ v1 H1 F1 B1 O1 c1 r1 => ⟨⟨z0, by subst ez; exact r1.str⟩, ?_⟩) hw⟩
  refine ⟨H0, M0, F1, Γ1, O1, c1.st, he.mono _ _ _ (fun t2 Γ2 ⟨z, ys, h1, h2, h3, q2⟩ v2 H2 F2 B2 O2 c2 r2 => ?_) q1⟩
  subst h1
  obtain ⟨c, fr, rr⟩ := (c1.trans c2).fin (New.here (K := X.K) (.str (Txt.join z ys)))
  rcases h2 with h2 | h2
  · obtain ⟨p, vs, rfl, hp, rs⟩ := r2.seqAt h2
    rw [rs.strs] at hp
    exact ⟨z, p, ys, r1.str, rfl, .inl hp, h3, q2 _ _ _ _ c fr rr⟩
  · subst h2
    obtain ⟨p, vs, rfl, hp, rs⟩ := r2.tupAt
    rw [rs.strs] at hp
    exact ⟨z, p, ys, r1.str, rfl, .inr hp, h3, q2 _ _ _ _ c fr rr⟩
/-! ### own defs -/
/-- what a def does to plain data: backwards -/
abbrev FS := List D → (OT → Prop) → Prop
def spD (K : PySem.W.Frag) (n : Nat) (φ : FS) : Sp := fun vs H Q _ => ∃ F ds, (∀ a ∈ F, ∃ o, H a = some o) ∧ Reps K H F ds vs ∧ ds.length = n ∧ φ ds fun t => ∀ v H' Od, RtPost K H [] F t v H' Od → Q v H'
theorem spD_len {K : PySem.W.Frag} {n : Nat} {φ : FS} (ps : List Str) (hn : ps.length = n) (vs : List V) (H : Hp) (Q : VK) (E : XK) (h : spD K n φ vs H Q E) : vs.length = ps.length := by
  obtain ⟨F, ds, _, r, l, _⟩ := h
  rw [← r.length, l, hn]
theorem RtPost.new {K : PySem.W.Frag} {F : List Addr} {H H' : Hp} {t : OT} {v : V} {Od : List Addr} (n : New K F H t v H' Od) (tr : ∀ a ∈ F, ∃ o, H a = some o) : RtPost K H [] F t v H' Od := by
  refine ⟨n.rep, fun a m z => ?_, fun a m => ?_, fun a o e _ => n.same a o e, fun a m => .inr (n.fre a m)⟩
  · obtain ⟨o, e⟩ := tr a z
    rw [n.fre a m] at e; cases e
  · rcases List.mem_append.mp m with m | m
    · obtain ⟨o, e⟩ := tr a m
      exact ⟨o, n.same a o e⟩
    · exact n.trk a m
theorem RtPost.isNew {K : PySem.W.Frag} {F : List Addr} {H H' : Hp} {t : OT} {v : V} {Od : List Addr} (p : RtPost K H [] F t v H' Od) : New K F H t v H' Od :=
  ⟨fun a o e => p.keep a o e (fun m => nomatch m), fun a m => (p.own a m).elim (fun m => nomatch m) id, fun a m => p.trk a (List.mem_append_right _ m), p.rep⟩
def wCall (φ : FS) (wr : WA) (dd : List D) : WE := fun Γ R => wr Γ fun ds Γ1 => φ (ds ++ dd) fun t => R t Γ1
structure FMono (φ : FS) : Prop where
  mono : ∀ ds (P P' : OT → Prop), (∀ t, P t → P' t) → φ ds P → φ ds P'
theorem lcall {K : PySem.W.Frag} {φ : FS} {dd : List D} {dvs : List V} (hφ : FMono φ) {n : Nat} (hm : MonoA wr) (hl : ∀ Γ R, wr Γ R → wr Γ fun ds Γ' => ds.length + dd.length = n ∧ R ds Γ') (hd : ∀ H G, Reps K H G dd dvs) (E : XK) (σ : St) (H : Hp) (Q : VK) (h : LE K (wCall φ wr dd) σ H Q) :
    tCall (spD K n φ) dvs E (LA K wr) σ H Q := by
  obtain ⟨H0, M0, F, Γ, O, st, hw⟩ := h
  refine ⟨H0, M0, F, Γ, O, st, hm _ _ _ (fun ds Γ1 q1 vs H1 O1 c r => ?_) (hl _ _ hw)⟩
  refine ⟨F ++ O1, ds ++ dd, fun a m => c.st.trk a m, r.append (hd _ _), by rw [List.length_append]; exact q1.1, hφ.mono _ _ _ (fun t q v H' Od p => ?_) q1.2⟩
  obtain ⟨c', fr, rr⟩ := c.fin p.isNew
  exact q v H' Od O1 c' fr rr
/-- argument lists and their lengths -/
def LenA (wr : WA) (n : Nat) : Prop := ∀ Γ R, wr Γ R → wr Γ fun ds Γ' => ds.length = n ∧ R ds Γ'
theorem lenNil : LenA waNil 0 := fun Γ R q => ⟨rfl, q⟩
theorem lenCons {n : Nat} (hw : MonoE w) (h : LenA wr n) : LenA (waCons w wr) (n + 1) := fun Γ R q => hw _ _ _ (fun t Γ1 q1 => by
  refine (?_ : wr Γ1 fun ds Γ2 => (t.val :: ds).length = n + 1 ∧ R (t.val :: ds) Γ2)
  have e : (fun (ds : List D) (Γ' : Env') => ds.length = n ∧ R (t.val :: ds) Γ') = fun ds Γ2 => (t.val :: ds).length = n + 1 ∧ R (t.val :: ds) Γ2 := by
    funext ds Γ2
    simp
  rw [← e]
  exact h _ _ q1) q
/-- arguments with their number -/
structure XAn (X : Cx) (es : List Expr) (wr : WA) (n : Nat) : Prop where
  xa : XA X es wr
  len : LenA wr n
theorem XAn.nil : XAn X [] waNil 0 := ⟨.nil, lenNil⟩
theorem XAn.cons {n : Nat} (he : XE X e w) (hr : XAn X es wr n) (hs : starEach (e :: es) X.env = (false, eval e X.env) :: starEach es X.env := by rfl) : XAn X (e :: es) (waCons w wr) (n + 1) := ⟨.cons he hr.xa hs, lenCons he.mono hr.len⟩
/-- a def known by its promise -/
structure FnD (P : Program) (w : World) (K : PySem.W.Frag) (mg : Str → Option Value) (base : Heap) (x : Str) (k n : Nat) (dd : List D) (φ : FS) : Prop where
  ex : ∃ (f : Addr) (fd : FuncData) (ps : List Str) (dvs : List V) (ds : List Value), FnOk P w K mg base CX0 k f fd ps (spD K n φ) ∧ mg x = some (.ref f) ∧ PySem.W.keepIn K (.ref f) = true ∧ Binds K fd ps ds ∧ Vals dvs ds ∧ (∀ H G, Reps K H G dd dvs)
  mono : FMono φ
theorem XE.call {φ : FS} {x : Str} {k n m : Nat} {dd : List D} {p : Pos} (F : FnD X.prog X.w X.K X.mg X.base x k n dd φ) (hr : Room k X.A) (hg : Gl X x) (ha : XAn X (e :: es) wr m) (hn : m + dd.length = n)
    (hdb : (x == ("__debug__" : Str)) = false := by decide) (he : starEach (e :: es) X.env = (false, eval e X.env) :: starEach es X.env := by rfl) (hpl : (backTo pos (starEach es X.env)).any (·.1) = false := by rfl) : XE X (.Call (.Name x p) (e :: es) [] pos) (wCall φ wr dd) := by
  obtain ⟨f, fd, ps, dvs, ds, ok, hm, hk, hb, hd, hdd⟩ := F.ex
  refine ⟨peW (pe_call ok hr hg hm hk hb hd pass0 ha.xa.pa hdb he hpl) fun σ H Q => ?_, fun Γ P P' i q => ha.xa.mono _ _ _ (fun ds Γ1 q1 => F.mono.mono _ _ _ (fun t q2 => i _ _ q2) q1) q⟩
  exact lcall F.mono ha.xa.mono (fun Γ R q => by
    have := ha.len Γ R q
    refine ha.xa.mono _ _ _ (fun ds Γ' q => ⟨by rw [q.1]; exact hn, q.2⟩) this) hdd E0 σ H Q
end
/-! ### a def by its body -/
def env0 (N : List Str) (ds : List D) : Env' := ds.map (fun d => some (.sh d)) ++ List.replicate (N.length - ds.length) none
theorem repE_none {K : PySem.W.Frag} {H : Hp} {G : List Addr} : ∀ n : Nat, RepE K H G (List.replicate n none) (List.replicate n none) []
  | 0 => .nil
  | n + 1 => .cn (repE_none n)
theorem repE_start {K : PySem.W.Frag} {H : Hp} {G : List Addr} {m : Nat} : ∀ {ds : List D} {vs : List V}, Reps K H G ds vs → RepE K H G (ds.map (fun d => some (.sh d)) ++ List.replicate m none) (vs.map some ++ List.replicate m none) []
  | _, _, .nil => repE_none m
  | _, _, .cons h t => RepE.cs (O1 := []) (.sh h) (repE_start t)
def wEnds (P : OT → Prop) : WEnds := ⟨fun _ => P (.sh .non), P, fun _ => False, fun _ => False⟩
/-- what a body does as a def -/
def wDef (N : List Str) (u : WS) : FS := fun ds P => u (wEnds P) (env0 N ds)
theorem wDef_mono {N : List Str} {u : WS} (h : MonoS u) : FMono (wDef N u) := ⟨fun ds P P' i q => h (wEnds P) (wEnds P') _ ⟨fun _ z => i _ z, fun t z => i t z, fun _ z => z, fun _ z => z⟩ q⟩
section
variable {P : Program} {w : World} {K : PySem.W.Frag} {mg : Str → Option Value} {base : Heap} {x qual : Str} {params : Arguments} {body : List Stmt} {scope : Scope} {dvs : List V} {kws : List (Str × V)} {f : Addr} {fd : FuncData} {N ps : List Str} {u : WS} {n k : Nat}
theorem FnD.ok (F : FunD K x qual params body scope dvs kws f fd) (S : FnScope N ps scope) (hn : ps.length = n)
    (hb : ∀ (cdv : Value) (A : Around) (outer : List Env) (s : Shared) (H : Hp) (E : XK), Room k (A.deeper (PyProof.Rows.envOfC qual scope s.heap.objs.size f cdv)) → XSs (cxOf CX0 P w K mg base N qual scope f cdv A outer s H E) body u) :
    FnOk P w K mg base CX0 (k + 1) f fd ps (spD K n (wDef N u)) := by
  refine F.ok S (fun vs H Q E h => spD_len ps hn vs H Q E h) fun cdv A outer s H vs Q E hr h => ?_
  have b := hb cdv A outer s H E hr
  refine ⟨_, b.ps, ?_⟩
  obtain ⟨F0, ds, tr, r, l, q⟩ := h
  have lv : vs.length = ds.length := r.length.symm
  refine ⟨H, [], F0, env0 N ds, [], ⟨?_, List.nodup_nil, fun _ m => (nomatch m), fun a m => tr a (by simpa using m), fun _ _ e _ => e, fun _ m => nomatch m⟩, b.mono (wEnds fun t => ∀ v H' Od, RtPost K H [] F0 t v H' Od → Q v H') _ _ ⟨fun Γ q σ' H' O' s' => ?_, fun t q v H' Od p => q v H' Od p, fun _ z => False.elim z, fun _ z => False.elim z⟩ q⟩
  · unfold env0 L2.start
    rw [lv]
    exact (repE_start r).ext (.sub fun a m => by simpa using m) (fun _ m => nomatch m)
  · exact q .non H' [] ⟨.sh .non, fun _ m => (nomatch m), fun a m => s'.trk a (by simp at m; simp [m]), s'.keep, fun _ m => nomatch m⟩
/-- a body's reading is monotone -/
theorem mono_of (hk100 : k < 100) (hb : ∀ (cdv : Value) (A : Around) (outer : List Env) (s : Shared) (H : Hp) (E : XK), Room k (A.deeper (PyProof.Rows.envOfC qual scope s.heap.objs.size f cdv)) → XSs (cxOf CX0 P w K mg base N qual scope f cdv A outer s H E) body u) : MonoS u :=
  (hb .none {} [] {} (fun _ => none) (fun _ _ _ => False) ⟨rfl, by show 0 + 1 + 3 * k + 5 < 1000; omega, by show 1 + 3 + 16 * k + 200 < 9900; omega⟩).mono
theorem FnD.pos (F : FunD K x qual params body scope [] [] f fd) (S : FnScope N ps scope) (hn : ps.length = n) (hm : mg x = some (.ref f))
    (hbd : ∀ (kV doc pm : Value) (an : Option Addr) (cdv ct : Value) (us : List Value), us.length = ps.length → bindArgs (PySem.W.fnOf x qual params body scope .none kV doc pm an cdv ct) ⟨us, []⟩ = pure (ps.zip us))
    (hb : ∀ (cdv : Value) (A : Around) (outer : List Env) (s : Shared) (H : Hp) (E : XK), Room k (A.deeper (PyProof.Rows.envOfC qual scope s.heap.objs.size f cdv)) → XSs (cxOf CX0 P w K mg base N qual scope f cdv A outer s H E) body u)
    (hk100 : k < 100 := by decide) : FnD P w K mg base x (k + 1) n [] (wDef N u) :=
  ⟨⟨f, fd, ps, [], [], FnD.ok F S hn hb, hm, F.kp, F.bindsN hbd, .nil, fun _ _ => .nil⟩, wDef_mono (mono_of hk100 hb)⟩
/-- a stronger promise, read from it -/
theorem FnD.imp {φ ψ : FS} {dd : List D} (F : FnD P w K mg base x k n dd φ) (hm : FMono ψ) (h : ∀ ds P, ds.length = n → ψ ds P → φ ds P) : FnD P w K mg base x k n dd ψ := by
  obtain ⟨f, fd, ps, dvs, ds, ok, a1, a2, a3, a4, a5⟩ := F.ex
  refine ⟨⟨f, fd, ps, dvs, ds, ok.imp fun vs H Q E ⟨F0, ds, h1, h2, h3, h4⟩ => ⟨F0, ds, h1, h2, h3, h _ _ h3 h4⟩, a1, a2, a3, a4, a5⟩, hm⟩
theorem FnD.up {φ : FS} {dd : List D} {j : Nat} (F : FnD P w K mg base x j n dd φ) (h : j ≤ k) : FnD P w K mg base x k n dd φ := by
  obtain ⟨f, fd, ps, dvs, ds, ok, r⟩ := F.ex
  exact ⟨⟨f, fd, ps, dvs, ds, ok.mono h, r⟩, F.mono⟩
end
end EV

set_option maxHeartbeats 4000000
/-! Ev, part L: fields stored to, new instances, keyword defaults, constants of the top. -/
namespace EV
open PySem PySem.Spec L2

def putFD (f : Str) (v : D) : List (Str × D) → List (Str × D)
  | [] => [(f, v)]
  | (g, x) :: r => if g = f then (g, v) :: r else (g, x) :: putFD f v r
theorem putF_rep {K : PySem.W.Frag} {H : Hp} {G : List Addr} (f : Str) {d : D} {v : V} (rv : Rep K H G d v) : ∀ {fs : List (Str × D)} {ws : List (Str × V)}, fs.map (·.1) = ws.map (·.1) → Reps K H G (fs.map (·.2)) (ws.map (·.2)) →
    (putFD f d fs).map (·.1) = (putF f v ws).map (·.1) ∧ Reps K H G ((putFD f d fs).map (·.2)) ((putF f v ws).map (·.2))
  | [], [], _, _ => ⟨rfl, .cons rv .nil⟩
  | [], _ :: _, e, _ => by cases e
  | (k, x) :: fs, [], e, _ => by cases e
  | (k, x) :: fs, (k2, y) :: ws, e, r => by
    simp only [List.map_cons, List.cons.injEq] at e
    obtain ⟨e1, e2⟩ := e
    have e1' : k = k2 := e1
    subst e1'
    simp only [List.map_cons] at r
    cases r with
    | cons h1 t =>
      unfold putFD putF
      by_cases q : k = f
      · rw [if_pos q, if_pos q]
        exact ⟨by simp [e2], .cons rv t⟩
      · rw [if_neg q, if_neg q]
        obtain ⟨p1, p2⟩ := putF_rep f rv e2 t
        exact ⟨by simp [p1], .cons h1 p2⟩
section
variable {X : Cx} {a b c e tg iter o : Expr} {es : List Expr} {wa wb wc w wo : WE} {wr wi : WA} {tc : WT} {pos apos : Pos} {st : Stmt} {rest b1 b2 : List Stmt} {u v : WS} {g : WG} {js : List Nat} {i : Nat}
/-- self.f = e, self held by slot i -/
def wSetF (i : Nat) (C : List Str) (f : Str) (w : WE) : WS := fun W Γ => w Γ fun t Γ1 => ∃ x c fs, Γ1[i]? = some (some (.ins x c fs)) ∧ c ∈ C ∧ fs.length < 1000 ∧ W.nx (Γ1.set i (some (.ins x c (putFD f t.val fs))))
theorem XS.setF {f : Str} {C : List Str} {pos' : Pos} (hF : ∀ c ∈ C, FldOk X.K c f) (ho : PE X o (tVar i)) (h : XE X e w) (hs : swapsWith e (some (.Attribute o f pos')) pos.line X.env = pure false) : XS X (.Assign [.Attribute o f pos'] e pos) (wSetF i C f w) := by
  refine ⟨psW (ps_fld ho h.pe hs) fun D σ H => ?_, fun W W' Γ l q => h.mono _ _ _ (fun t Γ1 ⟨x, c, fs, e1, e2, e3, q1⟩ => ⟨x, c, fs, e1, e2, e3, l.nx _ q1⟩) q⟩
  rintro ⟨H0, M0, F, Γ, O, st, hw⟩
  refine ⟨H0, M0, F, Γ, O, st, h.mono _ _ _ (fun t Γ1 ⟨x, c, fs, e1, e2, e3, q1⟩ y H1 Od O1 cc fr r => ?_) hw⟩
  have rd := cc.dropped st fr r
  have st1 := cc.base.st
  obtain ⟨v1, P1, Oa, S1, g1, g2, g3, _⟩ := st1.rep.at e1
  refine ⟨v1, g1, ?_⟩
  obtain ⟨p, dx, ws, ev, hp, ek, rs⟩ := g2.insAt rfl
  have gO : Oa = [x] ∧ v1 = .ref x := by cases g2; exact ⟨rfl, rfl⟩
  obtain ⟨rfl, rfl⟩ := gO
  cases ev
  have hl : ws.length = fs.length := by have := congrArg List.length ek; simpa using this.symm
  refine ⟨_, _, dx, ws, rfl, hp, (hF c e2).cl, (hF c e2).no, by rw [hl]; exact e3, ?_⟩
  have z := SOk.change st1 (t' := .ins x c (putFD f t.val fs)) (o' := .ins (He.ga X.K c) dx (putF f y ws)) e1 g1 g2 hp (fun _ z => nomatch z) (fun G xx _ => by
    obtain ⟨p1, p2⟩ := putF_rep f rd ek rs
    exact .ins upd_same p1 (p2.ext xx))
  exact q1 σ _ _ z
/-! ### new instances -/
abbrev FI := Addr → List D → (List (Str × D) → Prop) → Prop
def spI (K : PySem.W.Frag) (c : Str) (n : Nat) (φ : FI) : Sp := fun vs H Q _ => ∃ F ds x dx ws, vs = .ref x :: ws ∧ H x = some (.ins (He.ga K c) dx []) ∧ x ∉ F ∧ (∀ a ∈ F, ∃ o, H a = some o) ∧ Reps K H (F ++ [x]) ds ws ∧ ds.length = n ∧
  φ x ds fun fs => ∀ H', (∀ a o, a ≠ x → H a = some o → H' a = some o) → RepO K H' (F ++ [x]) (.ins x c fs) (.ref x) [x] → Q .non H'
theorem spI_len {K : PySem.W.Frag} {c : Str} {n : Nat} {φ : FI} (ps : List Str) (hn : ps.length = n + 1) (vs : List V) (H : Hp) (Q : VK) (E : XK) (h : spI K c n φ vs H Q E) : vs.length = ps.length := by
  obtain ⟨F, ds, x, dx, ws, rfl, _, _, _, r, l, _⟩ := h
  rw [List.length_cons, ← r.length, l, hn]
def wEndsI (a : Addr) (c : Str) (P : List (Str × D) → Prop) : WEnds := ⟨fun Γ => ∃ fs, Γ[0]? = some (some (.ins a c fs)) ∧ P fs, fun _ => False, fun _ => False, fun _ => False⟩
def wInit (c : Str) (N : List Str) (u : WS) : FI := fun a ds P => u (wEndsI a c P) (some (.ins a c []) :: (ds.map (fun d => some (.sh d)) ++ List.replicate (N.length - (ds.length + 1)) none))
structure IMono (φ : FI) : Prop where
  mono : ∀ a ds (P P' : List (Str × D) → Prop), (∀ t, P t → P' t) → φ a ds P → φ a ds P'
theorem wInit_mono {c : Str} {N : List Str} {u : WS} (h : MonoS u) : IMono (wInit c N u) := ⟨fun a ds P P' i q => h (wEndsI a c P) (wEndsI a c P') _ ⟨fun _ ⟨fs, e, z⟩ => ⟨fs, e, i _ z⟩, fun t z => z, fun _ z => z, fun _ z => z⟩ q⟩
structure MkD (P : Program) (w : World) (K : PySem.W.Frag) (mg : Str → Option Value) (base : Heap) (c : Str) (k n : Nat) (φ : FI) : Prop where
  ex : ∃ (f : Addr) (fd : FuncData) (ps : List Str), FnOk P w K mg base CX0 k f fd ps (spI K c n φ) ∧ mg c = some (.ref (He.ga K c)) ∧ Mk K (He.ga K c) f ∧ Binds K fd ps []
  mono : IMono φ
def wMake (c : Str) (φ : FI) (wr : WA) : WE := fun Γ R => wr Γ fun ds Γ1 => ∀ a, φ a ds fun fs => R (.ins a c fs) Γ1
theorem XE.make {φ : FI} {c : Str} {k n : Nat} {p : Pos} (M : MkD X.prog X.w X.K X.mg X.base c k n φ) (hr : Room (k + 1) X.A) (hg : Gl X c) (ha : XAn X (e :: es) wr n)
    (hdb : (c == ("__debug__" : Str)) = false := by decide) (he : starEach (e :: es) X.env = (false, eval e X.env) :: starEach es X.env := by rfl) (hpl : (backTo pos (starEach es X.env)).any (·.1) = false := by rfl) : XE X (.Call (.Name c p) (e :: es) [] pos) (wMake c φ wr) := by
  obtain ⟨f, fd, ps, ok, hm, mk, hb⟩ := M.ex
  refine ⟨peW (pe_make mk ok hr hg hm hb .nil pass0 ha.xa.pa hdb he hpl) fun σ H Q => ?_, fun Γ P P' i q => ha.xa.mono _ _ _ (fun ds Γ1 q1 a => M.mono.mono _ _ _ _ (fun t q2 => i _ _ q2) (q1 a)) q⟩
  rintro ⟨H0, M0, F, Γ, O, st, hw⟩
  refine ⟨H0, M0, F, Γ, O, st, ha.xa.mono _ _ _ (fun ds Γ1 q1 vs H1 O1 cc r x dx hx hdx hne => ?_) (ha.len _ _ hw)⟩
  obtain ⟨ln, q1⟩ := q1
  have hx' : ∀ a o, H1 a = some o → (upd (upd H1 dx (.own x)) x (.ins (He.ga X.K c) dx [])) a = some o := fun a o e => by
    rw [upd_ne (ne_of_none e hx), upd_ne (ne_of_none e hdx)]
    exact e
  refine ⟨F ++ O1, ds, x, dx, vs, by simp, upd_same, fun m => ?_, fun a m => ?_, r.ext (.of_same hx' fun a m => ?_), ln, M.mono.mono _ _ _ _ (fun fs q H' same rp => ⟨rfl, ?_⟩) (q1 x)⟩
  · obtain ⟨o, e⟩ := cc.st.trk x m
    rw [hx] at e; cases e
  · obtain ⟨o, e⟩ := cc.st.trk a m
    exact ⟨o, hx' a o e⟩
  · rcases List.mem_append.mp m with m | m
    · exact .inl m
    · simp at m; subst m; exact .inr hx
  · have n : New X.K (F ++ O1) H1 (.ins x c fs) (.ref x) H' [x] := ⟨fun a o e => same a o (ne_of_none e hx) (hx' a o e), fun a m => by simp at m; subst m; exact hx, fun a m => by
      simp at m; subst m
      cases rp with
      | ins h _ _ => exact ⟨_, h⟩, rp⟩
    obtain ⟨c', fr, rr⟩ := cc.fin n
    exact q _ H' [x] O1 c' fr rr
end
section
variable {P : Program} {w : World} {K : PySem.W.Frag} {mg : Str → Option Value} {base : Heap} {x qual : Str} {params : Arguments} {body : List Stmt} {scope : Scope} {dvs : List V} {kws : List (Str × V)} {f : Addr} {fd : FuncData} {N ps : List Str} {u : WS} {n k : Nat}
theorem MkD.ok {c : Str} (F : FunD K x qual params body scope dvs kws f fd) (S : FnScope N ps scope) (hn : ps.length = n + 1)
    (hb : ∀ (cdv : Value) (A : Around) (outer : List Env) (s : Shared) (H : Hp) (E : XK), Room k (A.deeper (PyProof.Rows.envOfC qual scope s.heap.objs.size f cdv)) → XSs (cxOf CX0 P w K mg base N qual scope f cdv A outer s H E) body u) :
    FnOk P w K mg base CX0 (k + 1) f fd ps (spI K c n (wInit c N u)) := by
  refine F.ok S (fun vs H Q E h => spI_len ps hn vs H Q E h) fun cdv A outer s H vs Q E hr h => ?_
  have b := hb cdv A outer s H E hr
  refine ⟨_, b.ps, ?_⟩
  obtain ⟨F0, ds, x, dx, ws, rfl, hx, hxF, tr, r, l, q⟩ := h
  have lv : ws.length = ds.length := r.length.symm
  refine ⟨H, [x], F0, _, [x], ⟨?_, by simp, fun a m => by simp at m; subst m; exact hxF, fun a m => ?_, fun _ _ e _ => e, fun _ m => .inl m⟩, b.mono (wEndsI x c _) _ _ ⟨fun Γ ⟨fs, e, q⟩ σ' H' O' s' => ?_, fun _ z => False.elim z, fun _ z => False.elim z, fun _ z => False.elim z⟩ q⟩
  · have e1 : L2.start N (.ref x :: ws) = some (.ref x) :: (ws.map some ++ List.replicate (N.length - (ds.length + 1)) none) := by
      unfold L2.start
      rw [List.length_cons, lv]
      rfl
    rw [e1]
    exact RepE.cs (O1 := [x]) (O2 := []) (.ins hx rfl .nil) (repE_start r)
  · rcases List.mem_append.mp m with m | m
    · exact tr a m
    · simp at m; subst m; exact ⟨_, hx⟩
  · obtain ⟨v, P1, O1, S1, h1, h2, h3, _⟩ := s'.rep.at e
    have ev : v = .ref x ∧ O1 = [x] := by cases h2; exact ⟨rfl, rfl⟩
    obtain ⟨rfl, rfl⟩ := ev
    refine q H' (fun a o ne e => s'.keep a o e (by simpa using ne)) (h2.ext (.sub fun a m => ?_) fun _ _ _ e => e)
    rcases List.mem_append.mp m with m | m
    · exact List.mem_append_left _ m
    · refine List.mem_append_right _ ?_
      rw [h3]
      simp at m
      simp [m]
theorem MkD.init {c : Str} (F : FunD K x qual params body scope [] [] f fd) (S : FnScope N ps scope) (hn : ps.length = n + 1) (hm : mg c = some (.ref (He.ga K c))) (mk : Mk K (He.ga K c) f)
    (hbd : ∀ (kV doc pm : Value) (an : Option Addr) (cdv ct : Value) (us : List Value), us.length = ps.length → bindArgs (PySem.W.fnOf x qual params body scope .none kV doc pm an cdv ct) ⟨us, []⟩ = pure (ps.zip us))
    (hb : ∀ (cdv : Value) (A : Around) (outer : List Env) (s : Shared) (H : Hp) (E : XK), Room k (A.deeper (PyProof.Rows.envOfC qual scope s.heap.objs.size f cdv)) → XSs (cxOf CX0 P w K mg base N qual scope f cdv A outer s H E) body u)
    (hk100 : k < 100 := by decide) : MkD P w K mg base c (k + 1) n (wInit c N u) :=
  ⟨⟨f, fd, ps, MkD.ok F S hn hb, hm, mk, F.bindsN hbd⟩, wInit_mono (mono_of hk100 hb)⟩
theorem MkD.imp {φ ψ : FI} {c : Str} (M : MkD P w K mg base c k n φ) (hm : IMono ψ) (h : ∀ a ds P, ds.length = n → ψ a ds P → φ a ds P) : MkD P w K mg base c k n ψ := by
  obtain ⟨f, fd, ps, ok, r⟩ := M.ex
  exact ⟨⟨f, fd, ps, ok.imp fun vs H Q E ⟨F0, ds, x, dx, ws, h1, h2, h3, h4, h5, h6, h7⟩ => ⟨F0, ds, x, dx, ws, h1, h2, h3, h4, h5, h6, h _ _ _ h6 h7⟩, r⟩, hm⟩
/-- keyword-only defaults, constants -/
theorem FnD.kw (dd : List D) (F : FunD K x qual params body scope [] kws f fd) (S : FnScope N ps scope) (hn : ps.length = n) (hm : mg x = some (.ref f)) (m : Nat) (hk : kws ≠ []) (hmn : m + kws.length = ps.length)
    (hbd : ∀ (D : Addr) (doc pm : Value) (an : Option Addr) (cdv ct : Value) (us ks : List Value), us.length = m → ks.length = kws.length →
      KwChain D ((kws.map (·.1)).zip ks) (bindArgs (PySem.W.fnOf x qual params body scope .none (.ref D) doc pm an cdv ct) ⟨us, []⟩) (ps.zip (us ++ ks)))
    (hd : ∀ H G, Reps K H G dd (kws.map (·.2)))
    (hb : ∀ (cdv : Value) (A : Around) (outer : List Env) (s : Shared) (H : Hp) (E : XK), Room k (A.deeper (PyProof.Rows.envOfC qual scope s.heap.objs.size f cdv)) → XSs (cxOf CX0 P w K mg base N qual scope f cdv A outer s H E) body u)
    (hk100 : k < 100 := by decide) : FnD P w K mg base x (k + 1) n dd (wDef N u) := by
  obtain ⟨ds, hv, hB⟩ := F.binds0 m hk hmn hbd
  exact ⟨⟨f, fd, ps, kws.map (·.2), ds, FnD.ok F S hn hb, hm, F.kp, hB, hv, hd⟩, wDef_mono (mono_of hk100 hb)⟩
end
end EV

set_option maxHeartbeats 4000000
/-! Ev, part M: the rules with their side conditions filled in. -/
namespace EV
open PySem PySem.Spec L2

section
variable {X : Cx} {a b c e f tg iter o : Expr} {es : List Expr} {wa wb wc w wo wk wx : WE} {wr wi : WA} {tc : WT} {pos apos : Pos} {st : Stmt} {rest b1 b2 : List Stmt} {u v : WS} {g : WG} {js : List Nat}
def wC (d : D) : WE := fun Γ R => R (.sh d) Γ
theorem gInt {i : Int} {j} : XE X (.Constant (.int i) j pos) (wC (.int i)) := .con pe_int fun _ _ => .int _
theorem gStr {i : Str} {j} : XE X (.Constant (.str i) j pos) (wC (.str i)) := .con pe_str fun _ _ => .str _
theorem gBl {i : Bool} {j} : XE X (.Constant (.bool i) j pos) (wC (.bl i)) := .con pe_bl fun _ _ => .bl _
theorem gNon {j} : XE X (.Constant .none j pos) (wC .non) := .con pe_non fun _ _ => .non
theorem gGlo {x : Str} {v : V} {d : D} (hg : Gl X x) (h : ∃ u, X.mg x = some u ∧ RelV v u) (r : ∀ H G, Rep X.K H G d v) (hd : (x == ("__debug__" : Str)) = false := by decide) : XE X (.Name x pos) (wC d) := by
  obtain ⟨u, h1, h2⟩ := h
  exact .con (pe_glob hg h1 h2 hd) r
/-- a local name -/
theorem gU (i : Nat) {x : Str} (hN : X.N[i]? = some x) (hv : Vis X.env.scope x) (hd : (x == ("__debug__" : Str)) = false := by decide) (hcd : (x == ("__classdict__" : Str)) = false := by decide) : XU X (.Name x pos) (wUse i) := .var (pe_var hN hv hd hcd)
theorem gE (i : Nat) {x : Str} (hN : X.N[i]? = some x) (hv : Vis X.env.scope x) (hd : (x == ("__debug__" : Str)) = false := by decide) (hcd : (x == ("__classdict__" : Str)) = false := by decide) : XE X (.Name x pos) (wName i) := .var (pe_var hN hv hd hcd)
/-- statements -/
theorem gSet (i : Nat) {x : Str} {pos' : Pos} (hN : X.N.Nodup) (hi : X.N[i]? = some x) (hx : Loc X.env.scope x) (hf : X.fn x = true ∨ X.env.scope.names.lookup x = some .local) (h : XE X e w) (hs : swapsWith e (some (.Name x pos')) pos.line X.env = pure false := by rfl) : XS X (.Assign [.Name x pos'] e pos) (wAsg w (gVar i)) :=
  .set h fun p => ps_set hN hi hx p hs hf
theorem gAug {i : Nat} {x : Str} {op : Operator} {fn : Int → Int → Int} {pos' : Pos} (ho : PIp X op (ipI fn)) (hN : X.N.Nodup) (hi : X.N[i]? = some x) (hx : Loc X.env.scope x) (hf : X.fn x = true ∨ X.env.scope.names.lookup x = some .local) (h : XU X e w) : XS X (.AugAssign (.Name x pos') op e pos) (wAugI i fn w) :=
  .augI h fun p => ps_aug hN hi hx p ho hf
theorem gApp {i : Nat} {x : Str} {xp cpos : Pos} (hN : X.N[i]? = some x) (hv : Vis X.env.scope x) (h : XE X e w)
    (hbase : attributeBase (.Name x xp) "append" X.env (eval (.Name x xp) X.env) = eval (.Name x xp) X.env := by rfl)
    (hfew : ((backTo cpos (starEach [e] X.env)).all (fun x => !x.1) && (backToKw cpos (keywordEach [] X.env)).all (fun x => x.1.isSome)
      && decide (([e] : List Expr).length + ([] : List Keyword).length + (if ([] : List Keyword).isEmpty then 0 else 1) < 30)) = true := by rfl)
    (hline : (apos.endLine == cpos.line) = true := by rfl) (hs : starEach [e] X.env = (false, eval e X.env) :: starEach [] X.env := by rfl) (hplain : (backTo cpos (starEach [] X.env)).any (·.1) = false := by rfl)
    (hsw : swapsWith (.Call (.Attribute (.Name x xp) "append" apos) [e] [] cpos) none pos.line X.env = pure false := by rfl) (hd : (x == ("__debug__" : Str)) = false := by decide) (hcd : (x == ("__classdict__" : Str)) = false := by decide) :
    XS X (.Expr (.Call (.Attribute (.Name x xp) "append" apos) [e] [] cpos) pos) (wApp i w) :=
  .app h (pe_var hN hv hd hcd) fun p q => ps_expr (pe_bm PySem.F.plainAttrs_list PySem.F.slot_list_append PySem.F.type_list_append mt_append p (pa_cons q pa_nil hs) hbase hfew hline hs hplain) hsw
theorem gDrop (h : XE X e w) (hsw : swapsWith e none pos.line X.env = pure false := by rfl) : XS X (.Expr e pos) (wDrop w) := .expr h fun p => ps_expr p hsw
theorem gPut {i : Nat} {x : Str} {xp spos : Pos} {k : Expr} (hu : X.A.units + 1 < cLine) (hN : X.N[i]? = some x) (hv : Vis X.env.scope x) (hk : XU X k wk) (h : XE X e w)
    (hs : swapsWithSole [.Subscript (.Name x xp) k spos] e pos.line X.env = pure false := by rfl) (hw : swappedStores [.Subscript (.Name x xp) k spos] e X.env = pure none := by rfl)
    (h1 : (assignEach [.Subscript (.Name x xp) k spos] X.env).map (·.2) = [assign (.Subscript (.Name x xp) k spos) X.env] := by rfl)
    (ha : ∀ v, assign (.Subscript (.Name x xp) k spos) X.env v = (do
      let ov ← holding [v] (eval (.Name x xp) X.env)
      let iv ← holding [v, ov] (eval k X.env)
      standAt spos
      holding [v, ov, iv] (setItem ov iv v)
      release [v, ov, iv] []) := by intro _; rfl) (hd : (x == ("__debug__" : Str)) = false := by decide) (hcd : (x == ("__classdict__" : Str)) = false := by decide) :
    XS X (.Assign [.Subscript (.Name x xp) k spos] e pos) (wPut i wk w) :=
  .put h hk (pe_var hN hv hd hcd) fun p q r => ps_asg p (pg_sub q r (PSet.or (set_dict hu) set_list) ha) hs hw h1
theorem gPar {i j : Nat} {x y : Str} {px py pt : Pos} {kt k2 : Nat} {pt2 : Pos} (hc : X.calm = true) (hN : X.N.Nodup) (hi : X.N[i]? = some x) (hj : X.N[j]? = some y) (hij : i ≠ j) (hx : X.env.scope.names.lookup x = some .local) (hy : X.env.scope.names.lookup y = some .local) (ha : XA X [a, b] wr)
    (hw : swappedStores [.Tuple [.Name x px, .Name y py] kt pt] (.Tuple [a, b] k2 pt2) X.env = pure (some [x, y])) (hs : swapsWithSole [.Tuple [.Name x px, .Name y py] kt pt] (.Tuple [a, b] k2 pt2) pos.line X.env = pure false := by rfl) :
    XS X (.Assign [.Tuple [.Name x px, .Name y py] kt pt] (.Tuple [a, b] k2 pt2) pos) (wPar i j wr) :=
  .par ha fun p => ps_par hc hN hi hj hij hx hy p hw hs
/-- tests -/
theorem gT (h : XU X a wa) (he : ∀ whole, isTrue a X.env whole = (do let v ← whole; standAt a.pos; holding [v] (truthy v)) := by intro _; rfl) : XT X a (wTru wa) := .truth h he
/-- builtin functions -/
theorem gLen {p : Pos} (hg : Gl X "len") (hm : X.mg "len" = none) (ha : XU X a wa) (he : starEach [a] X.env = (false, eval a X.env) :: starEach [] X.env := by rfl) : XE X (.Call (.Name "len" p) [a] [] pos) (wUn fLen wa) := .callB1 call_len op1_len hg hm boot_len ha (by decide) (by decide) he
theorem gCInt {p : Pos} (hg : Gl X "int") (hm : X.mg "int" = none) (ha : XU X a wa) (he : starEach [a] X.env = (false, eval a X.env) :: starEach [] X.env := by rfl) : XE X (.Call (.Name "int" p) [a] [] pos) (wUn fInt wa) := .callT1 call_int1 op1_int hg hm (by decide +kernel) ha (by decide) (by decide) he
theorem gTuple {p : Pos} (hg : Gl X "tuple") (hm : X.mg "tuple" = none) (ha : XU X a wa) (he : starEach [a] X.env = (false, eval a X.env) :: starEach [] X.env := by rfl) : XE X (.Call (.Name "tuple" p) [a] [] pos) (wUn fTupOf wa) := .callT1 call_tuple_of op1_tup hg hm (by decide +kernel) ha (by decide) (by decide) he
theorem gList {p : Pos} (hg : Gl X "list") (hm : X.mg "list" = none) (ha : XU X a wa) (he : starEach [a] X.env = (false, eval a X.env) :: starEach [] X.env := by rfl) : XE X (.Call (.Name "list" p) [a] [] pos) (wUn fLstOf wa) := .callT1 call_list_of op1_lst hg hm (by decide +kernel) ha (by decide) (by decide) he
theorem gMax {p : Pos} (hc : X.calm = true) (hg : Gl X "max") (hm : X.mg "max" = none) (ha : XU X a wa) (hb : XU X b wb) (he : starEach [a, b] X.env = (false, eval a X.env) :: starEach [b] X.env := by rfl) (he2 : starEach [b] X.env = (false, eval b X.env) :: starEach [] X.env := by rfl) : XE X (.Call (.Name "max" p) [a, b] [] pos) (wBin fMax wa wb) := .callB2 (call_max2 hc) op2_max hg hm (by decide +kernel) ha hb (by decide) (by decide) he he2
theorem gMin {p : Pos} (hc : X.calm = true) (hg : Gl X "min") (hm : X.mg "min" = none) (ha : XU X a wa) (hb : XU X b wb) (he : starEach [a, b] X.env = (false, eval a X.env) :: starEach [b] X.env := by rfl) (he2 : starEach [b] X.env = (false, eval b X.env) :: starEach [] X.env := by rfl) : XE X (.Call (.Name "min" p) [a, b] [] pos) (wBin fMin wa wb) := .callB2 (call_min2 hc) op2_min hg hm (by decide +kernel) ha hb (by decide) (by decide) he he2
theorem gIsA {y : Str} {p p2 : Pos} (n : TyN) (hy : y = Str.ofString n.name) (hg : Gl X "isinstance") (hm : X.mg "isinstance" = none) (hg2 : Gl X y) (hm2 : X.mg y = none) (ha : XU X a wa) (he : starEach [a, .Name y p2] X.env = (false, eval a X.env) :: starEach [.Name y p2] X.env := by rfl) : XE X (.Call (.Name "isinstance" p) [a, .Name y p2] [] pos) (wUn (fIsA n) wa) := by
  subst hy
  refine .isA n hg hm (by decide +kernel) hg2 hm2 ?_ ha (by decide) (by decide) ?_ ?_ he <;> cases n <;> decide +kernel
end
end EV

set_option maxHeartbeats 4000000
/-! Ev, part N: the head's facts with one Bool more. -/
namespace EV
open PySem PySem.Spec L2
open He

def obsE (n : Nat) (fa : List Fa) (fn : List DefD) (ex : PySem.W.Frag → Bool) (g : Addr → Option Obj) : AlD × Bool := (obsD fa fn (frG g (asD g n)), ex (frG g (asD g n)))
def hookE (n : Nat) (fa : List Fa) (fn : List DefD) (ex : PySem.W.Frag → Bool) : PySem.W.Hook where
  α := AlD × Bool
  obs := fun s => obsE n fa fn ex s.heap.get?
  val := fun _ => (valD fn, true)
  says := fun _ h => ∃ K : PySem.W.Frag, K.In h ∧ SaysD fa fn K ∧ ex K = true
  of := fun _ _ e => ⟨_, frG_in, congrArg (fun z : AlD × Bool => z.1) e, congrArg (fun z : AlD × Bool => z.2) e⟩
  keeps := fun _ _ _ ⟨K, hK, c⟩ k => ⟨K, PySem.W.Frag.In.keeps hK k, c⟩
theorem obsE_eq {n : Nat} {fa : List Fa} {fn : List DefD} {ex : PySem.W.Frag → Bool} {g : Addr → Option Obj} {s : Shared} (h : ∀ a, g a = s.heap.get? a) : obsE n fa fn ex g = (hookE n fa fn ex).obs s := by
  have e : g = s.heap.get? := funext h
  rw [e] <;> rfl
theorem static_of {K : PySem.W.Frag} {x : Str} {vs : List Dv} (h : tupB K x vs = true) : StaticT K (ga K x) (vs.map (Dv.v K)) := by
  have q := tupB_ok h (fun _ => none)
  rcases q with (q | ⟨_, q⟩) | q
  · cases q
  · cases q
  · exact q
theorem fact_in {K : PySem.W.Frag} {fa : List Fa} {fn : List DefD} (c : SaysD fa fn K) {f : Fa} (h : f ∈ fa) : f.ok K = true := by
  obtain ⟨i, hi, e⟩ := List.mem_iff_getElem.mp h
  exact c.fact i (f := f) (by rw [List.getElem?_eq_getElem hi, e])
theorem fldOk {K : PySem.W.Frag} {c f : Str} (h1 : (Fa.cls c).ok K = true) (h2 : (Fa.noat c f).ok K = true) : FldOk K c f := ⟨cls_ok h1, noat_ok h2⟩
end EV

set_option maxHeartbeats 4000000
/-! Ev, part O: comprehensions with side conditions filled in, targets. -/
namespace EV
open PySem PySem.Spec L2

/-- a block's names, computed -/
def blkB (N : List Str) (sc scope : Scope) (own : List (Str × Nat)) : Bool :=
  decide (scope.kind = .function) && ((scope.names.all fun y => decide (scope.names.lookup y.1 = some y.2)) && ((own.all fun p => decide (N[p.2]? = some p.1)) && ((scope.names.all fun y => !decide (y.2 = .free) || (decide (sc.names.lookup y.1 = some .cell) || decide (sc.names.lookup y.1 = some .free))) &&
    scope.names.all fun y => !(decide (y.2 = .local) || decide (y.2 = .cell)) || (decide (y.1 ∈ own.map (·.1)) || !decide (y.1 ∈ N)))))
theorem blkOk {N : List Str} {sc scope : Scope} {own : List (Str × Nat)} (h : blkB N sc scope own = true) : BlkOk N sc scope own := by
  unfold blkB at h
  simp only [Bool.and_eq_true, List.all_eq_true, decide_eq_true_eq, Bool.or_eq_true, Bool.not_eq_true', decide_eq_false_iff_not] at h
  obtain ⟨h1, h2, h3, h4, h5⟩ := h
  refine ⟨h1, h2, h3, fun y hy e => ?_, fun y hy e => ?_⟩
  · exact (h4 y hy).resolve_left (fun z => z e)
  · rcases h5 y hy with z | z
    · simp only [Bool.or_eq_false_iff, decide_eq_false_iff_not] at z
      exact (e.elim z.1 z.2).elim
    · exact z
section
variable {X : Cx} {a b c e f tg iter o elt kx vx : Expr} {es ifs : List Expr} {wa wb wc w wo wk wx we wv : WE} {wr wi : WA} {tc tt : WT} {pos apos : Pos} {st : Stmt} {rest b1 b2 : List Stmt} {u v : WS} {g : WG} {js : List Nat} {scope : Scope} {own : List (Str × Nat)}
def wD0 : WE := fun Γ R => R (.dK []) Γ ∨ R (.dT []) Γ
theorem peOr {t t' : TE} (h : PE X e t) (h' : PE X e t') : PE X e (fun σ H Q => t σ H Q ∨ t' σ H Q) := ⟨fun pins s σ H Q I q => q.elim (h.run pins s σ H Q I) (h'.run pins s σ H Q I)⟩
theorem gD0 : XE X (.Dict [] [] pos) wD0 := by
  refine ⟨peW (peOr XE.dnewK.pe XE.dnewT.pe) fun σ H Q => ?_, fun Γ P P' i q => q.imp (i _ _) (i _ _)⟩
  rintro ⟨H0, M0, F, Γ, O, st, hw⟩
  exact hw.imp (fun q => ⟨H0, M0, F, Γ, O, st, q⟩) (fun q => ⟨H0, M0, F, Γ, O, st, q⟩)
theorem gLc (hN : X.N.Nodup) (hc : X.calm = true) (hi : XI X tg iter wi) (ok : BlkOk X.N X.env.scope scope own) (sub : ∀ j ∈ js, j ∈ own.map (·.2)) (hg : ∀ (s : Shared) (H : Hp) (C : Addr) (cl : List (Str × Addr)) (fp : List Addr), XG (X.blk s H scope (compEnvC scope cl C X.env) fp) tg g js)
    (ht : ∀ (s : Shared) (H : Hp) (C : Addr) (cl : List (Str × Addr)) (fp : List Addr), XTs (X.blk s H scope (compEnvC scope cl C X.env) fp) ifs tt) (he : ∀ (s : Shared) (H : Hp) (C : Addr) (cl : List (Str × Addr)) (fp : List Addr), XE (X.blk s H scope (compEnvC scope cl C X.env) fp) elt we)
    (hs : ∀ x, foldedSetIterable iter X.env x = pure x := by intro _; rfl) : XE X (.ListComp elt [⟨tg, iter, ifs, 0⟩] scope pos) (wLc (own.map (·.2)) wi g tt we) :=
  .lc hc hN hi ok hg ht he (hg X.s_0 X.H_0 0 [] []).mono (ht X.s_0 X.H_0 0 [] []).mono (he X.s_0 X.H_0 0 [] []).mono sub hs
theorem gSetLc (i : Nat) {y : Str} {py spos : Pos} (hN : X.N.Nodup) (hc : X.calm = true) (hy : X.N[i]? = some y) (hyl : X.env.scope.names.lookup y = some .local) (hi : XI X tg iter wi) (ok : BlkOk X.N X.env.scope scope own) (sub : ∀ j ∈ js, j ∈ own.map (·.2)) (hg : ∀ (s : Shared) (H : Hp) (C : Addr) (cl : List (Str × Addr)) (fp : List Addr), XG (X.blk s H scope (compEnvC scope cl C X.env) fp) tg g js)
    (ht : ∀ (s : Shared) (H : Hp) (C : Addr) (cl : List (Str × Addr)) (fp : List Addr), XTs (X.blk s H scope (compEnvC scope cl C X.env) fp) ifs tt) (he : ∀ (s : Shared) (H : Hp) (C : Addr) (cl : List (Str × Addr)) (fp : List Addr), XE (X.blk s H scope (compEnvC scope cl C X.env) fp) elt we)
    (hsw : swapsWith (.ListComp elt [⟨tg, iter, ifs, 0⟩] scope pos) (some (.Name y py)) spos.line X.env = pure true := by rfl) (hs : ∀ x, foldedSetIterable iter X.env x = pure x := by intro _; rfl) : XS X (.Assign [.Name y py] (.ListComp elt [⟨tg, iter, ifs, 0⟩] scope pos) spos) (wAsg (wLc (own.map (·.2)) wi g tt we) (gVar i)) :=
  .setLc hc hN hy hyl hsw hi ok hg ht he (hg X.s_0 X.H_0 0 [] []).mono (ht X.s_0 X.H_0 0 [] []).mono (he X.s_0 X.H_0 0 [] []).mono sub hs
theorem gDc (hu : X.A.units + 1 < cLine) (hN : X.N.Nodup) (hc : X.calm = true) (hi : XI X tg iter wi) (ok : BlkOk X.N X.env.scope scope own) (sub : ∀ j ∈ js, j ∈ own.map (·.2)) (hg : ∀ (s : Shared) (H : Hp) (C : Addr) (cl : List (Str × Addr)) (fp : List Addr), XG (X.blk s H scope (compEnvC scope cl C X.env) fp) tg g js)
    (ht : ∀ (s : Shared) (H : Hp) (C : Addr) (cl : List (Str × Addr)) (fp : List Addr), XTs (X.blk s H scope (compEnvC scope cl C X.env) fp) ifs tt) (hk : ∀ (s : Shared) (H : Hp) (C : Addr) (cl : List (Str × Addr)) (fp : List Addr), XU (X.blk s H scope (compEnvC scope cl C X.env) fp) kx wk) (he : ∀ (s : Shared) (H : Hp) (C : Addr) (cl : List (Str × Addr)) (fp : List Addr), XE (X.blk s H scope (compEnvC scope cl C X.env) fp) vx wv)
    (hs : ∀ x, foldedSetIterable iter X.env x = pure x := by intro _; rfl) : XE X (.DictComp kx vx [⟨tg, iter, ifs, 0⟩] scope pos) (wDcT (own.map (·.2)) wi g tt wk wv) :=
  .dcT hu hc hN hi ok hg ht hk he (hg X.s_0 X.H_0 0 [] []).mono (ht X.s_0 X.H_0 0 [] []).mono (hk X.s_0 X.H_0 0 [] []).mono (he X.s_0 X.H_0 0 [] []).mono sub hs
theorem gSetDc (i : Nat) {y : Str} {py spos : Pos} (hu : X.A.units + 1 < cLine) (hN : X.N.Nodup) (hc : X.calm = true) (hy : X.N[i]? = some y) (hyl : X.env.scope.names.lookup y = some .local) (hi : XI X tg iter wi) (ok : BlkOk X.N X.env.scope scope own) (sub : ∀ j ∈ js, j ∈ own.map (·.2)) (hg : ∀ (s : Shared) (H : Hp) (C : Addr) (cl : List (Str × Addr)) (fp : List Addr), XG (X.blk s H scope (compEnvC scope cl C X.env) fp) tg g js)
    (ht : ∀ (s : Shared) (H : Hp) (C : Addr) (cl : List (Str × Addr)) (fp : List Addr), XTs (X.blk s H scope (compEnvC scope cl C X.env) fp) ifs tt) (hk : ∀ (s : Shared) (H : Hp) (C : Addr) (cl : List (Str × Addr)) (fp : List Addr), XU (X.blk s H scope (compEnvC scope cl C X.env) fp) kx wk) (he : ∀ (s : Shared) (H : Hp) (C : Addr) (cl : List (Str × Addr)) (fp : List Addr), XE (X.blk s H scope (compEnvC scope cl C X.env) fp) vx wv)
    (hsw : swapsWith (.DictComp kx vx [⟨tg, iter, ifs, 0⟩] scope pos) (some (.Name y py)) spos.line X.env = pure true := by rfl) (hs : ∀ x, foldedSetIterable iter X.env x = pure x := by intro _; rfl) : XS X (.Assign [.Name y py] (.DictComp kx vx [⟨tg, iter, ifs, 0⟩] scope pos) spos) (wAsg (wDcT (own.map (·.2)) wi g tt wk wv) (gVar i)) :=
  .setDcT hu hc hN hy hyl hsw hi ok hg ht hk he (hg X.s_0 X.H_0 0 [] []).mono (ht X.s_0 X.H_0 0 [] []).mono (hk X.s_0 X.H_0 0 [] []).mono (he X.s_0 X.H_0 0 [] []).mono sub hs
theorem gTV (i : Nat) {x : Str} (hN : X.N.Nodup) (hi : X.N[i]? = some x) (hx : Loc X.env.scope x) (hf : X.fn x = true ∨ X.env.scope.names.lookup x = some .local) : XG X (.Name x pos) (gVar i) [i] := .var (pg_name hN hi hx hf)
theorem gTT {k n : Nat} {gs : WGs} (hc : X.calm = true) (h : XGs X es gs js) (hn : (assignEach es X.env).length = n := by rfl) (hst : (assignEach es X.env).findIdx? (·.1) = none := by rfl) : XG X (.Tuple es k pos) (gTupD n gs) js := .tup hc h hn hst
theorem gTC {gs : WGs} {ks : List Nat} (h : XG X e g js) (h' : XGs X es gs ks) (hs : (assignEach (e :: es) X.env).map (·.2) = assign e X.env :: (assignEach es X.env).map (·.2) := by rfl) : XGs X (e :: es) (gsCons g gs) (js ++ ks) := .cons h h' hs
def wNever : WS := fun _ _ => False
theorem gNever : XS X st wNever := .never
theorem gAsg (h : XE X e w) (hg : XG X a g js) (hs : swapsWithSole [a] e pos.line X.env = pure false := by rfl) (hw : swappedStores [a] e X.env = pure none := by rfl) (h1 : (assignEach [a] X.env).map (·.2) = [assign a X.env] := by rfl) : XS X (.Assign [a] e pos) (wAsg w g) := .asg h hg fun p q => ps_asg p q hs hw h1
end
end EV

set_option maxHeartbeats 4000000
/-! Ev, part P: the algebra of the plain data: what the operations are on known shapes. -/
namespace EV
open PySem PySem.Spec L2

/-! ### == -/
def keyPy : Key → PyData
  | .inl i => .int i
  | .inr x => .str x
theorem py_key (k : Key) : (keyD k).py = some (keyPy k) := by cases k <;> rfl
theorem pys_keys : ∀ ks : List Key, D.pys (ks.map keyD) = some (ks.map keyPy)
  | [] => rfl
  | k :: ks => by simp [D.pys, py_key, pys_keys ks]
def formD (f : List Key) : D := .tup (f.map keyD)
theorem py_form (f : List Key) : (formD f).py = some (.tuple (f.map keyPy)) := by simp [formD, D.py, pys_keys]
theorem str_beq (x y : Str) : (x == y) = decide (x = y) := by
  cases h : decide (x = y) with
  | true => rw [of_decide_eq_true h]; exact beq_self_eq_true y
  | false =>
    have : ¬ x = y := of_decide_eq_false h
    exact beq_eq_false_iff_ne.mpr this
theorem eqv_key (a b : Key) : PyData.eqv (keyPy a) (keyPy b) = decide (a = b) := by
  cases a with
  | inl i => cases b with
    | inl j =>
      show (i == j) = _
      by_cases h : i = j <;> simp [h]
    | inr y => simp [keyPy, PyData.eqv]
  | inr x => cases b with
    | inl j => simp [keyPy, PyData.eqv]
    | inr y =>
      show (x == y) = _
      rw [str_beq]
      by_cases h : x = y <;> simp [h]
theorem eqvAll_keys : ∀ a b : List Key, PyData.eqvAll (a.map keyPy) (b.map keyPy) = decide (a = b)
  | [], [] => by simp [PyData.eqvAll]
  | [], _ :: _ => by simp [PyData.eqvAll]
  | _ :: _, [] => by simp [PyData.eqvAll]
  | x :: xs, y :: ys => by
    simp only [List.map_cons, PyData.eqvAll, eqv_key, eqvAll_keys xs ys]
    by_cases h : x = y <;> by_cases h' : xs = ys <;> simp [h, h']
theorem eqv_form (a b : List Key) : PyData.eqv (.tuple (a.map keyPy)) (.tuple (b.map keyPy)) = decide (a = b) := by
  show PyData.eqvAll _ _ = _
  exact eqvAll_keys a b
/-- a key that can be compared -/
def okK (k : Key) : Bool := (keyPy k).canLay0
def okF (f : List Key) : Bool := f.all okK
theorem canLay_keys : ∀ f : List Key, okF f = true → PyData.canLayAll0 (f.map keyPy) = true
  | [], _ => rfl
  | k :: ks, h => by
    simp only [okF, List.all_cons, Bool.and_eq_true] at h
    simp only [List.map_cons, PyData.canLayAll0, Bool.and_eq_true]
    exact ⟨h.1, canLay_keys ks h.2⟩
theorem depth_key (k : Key) : (keyPy k).depth = 0 := by cases k <;> simp [keyPy, PyData.depth]
theorem depth_keys : ∀ f : List Key, PyData.depthAll (f.map keyPy) = 0
  | [] => rfl
  | k :: ks => by simp only [List.map_cons, PyData.depthAll, depth_key, depth_keys ks]; rfl
theorem shaped_key {k : Key} (h : okK k = true) : SeqAt.shaped (keyPy k) = true := by
  have e : (keyPy k).canLay0 = true := h
  simp [SeqAt.shaped, e, depth_key]
theorem shaped_form {f : List Key} (h : okF f = true) : SeqAt.shaped (.tuple (f.map keyPy)) = true := by
  have e := canLay_keys f h
  simp [SeqAt.shaped, PyData.canLay0, e, PyData.depth, depth_keys]
/-- a rule: two forms -/
abbrev Rl := List Key × List Key
def ruleD (r : Rl) : D := .tup [formD r.1, formD r.2]
def rulePy (r : Rl) : PyData := .tuple [.tuple (r.1.map keyPy), .tuple (r.2.map keyPy)]
theorem py_rule (r : Rl) : (ruleD r).py = some (rulePy r) := by simp [ruleD, D.py, D.pys, py_form, rulePy]
theorem eqv_rule (a b : Rl) : PyData.eqv (rulePy a) (rulePy b) = decide (a = b) := by
  show PyData.eqvAll [_, _] [_, _] = _
  simp only [PyData.eqvAll, eqv_form, Bool.and_true]
  obtain ⟨a1, a2⟩ := a
  obtain ⟨b1, b2⟩ := b
  by_cases h : a1 = b1 <;> by_cases h' : a2 = b2 <;> simp [h, h']
def okR (r : Rl) : Bool := okF r.1 && okF r.2
theorem shaped_rule {r : Rl} (h : okR r = true) : SeqAt.shaped (rulePy r) = true := by
  simp only [okR, Bool.and_eq_true] at h
  have e1 := canLay_keys _ h.1
  have e2 := canLay_keys _ h.2
  simp [SeqAt.shaped, rulePy, PyData.canLay0, PyData.canLayAll0, e1, e2, PyData.depth, PyData.depthAll, depth_keys]
section
variable {P : OT → Prop}
theorem fEq_mk {t1 t2 : OT} {x y : PyData} (h1 : t1.val.py = some x) (h2 : t2.val.py = some y) (s1 : SeqAt.shaped x = true) (s2 : SeqAt.shaped y = true) : fEq t1 t2 P = P (.sh (.bl (PyData.eqv x y))) := by
  refine propext ⟨fun ⟨x', y', e1, e2, _, _, p⟩ => ?_, fun p => ⟨x, y, h1, h2, s1, s2, p⟩⟩
  rw [h1] at e1; rw [h2] at e2
  cases e1; cases e2
  exact p
theorem fNe_mk {t1 t2 : OT} {x y : PyData} (h1 : t1.val.py = some x) (h2 : t2.val.py = some y) (s1 : SeqAt.shaped x = true) (s2 : SeqAt.shaped y = true) : fNe t1 t2 P = P (.sh (.bl (!PyData.eqv x y))) := by
  refine propext ⟨fun ⟨x', y', e1, e2, _, _, p⟩ => ?_, fun p => ⟨x, y, h1, h2, s1, s2, p⟩⟩
  rw [h1] at e1; rw [h2] at e2
  cases e1; cases e2
  exact p
theorem shaped_int (i : Int) : SeqAt.shaped (.int i) = true := by simp [SeqAt.shaped, PyData.canLay0, PyData.depth]
theorem eqv_int (i j : Int) : PyData.eqv (.int i) (.int j) = decide (i = j) := by
  have := eqv_key (.inl i) (.inl j)
  simpa [keyPy] using this
theorem fEq_int {i j : Int} : fEq (.sh (.int i)) (.sh (.int j)) P = P (.sh (.bl (decide (i = j)))) := by rw [fEq_mk (x := .int i) (y := .int j) rfl rfl (shaped_int i) (shaped_int j), eqv_int]
theorem fNe_int {i j : Int} : fNe (.sh (.int i)) (.sh (.int j)) P = P (.sh (.bl (!decide (i = j)))) := by rw [fNe_mk (x := .int i) (y := .int j) rfl rfl (shaped_int i) (shaped_int j), eqv_int]
theorem fEq_key {a b : Key} (ha : okK a = true) (hb : okK b = true) : fEq (.sh (keyD a)) (.sh (keyD b)) P = P (.sh (.bl (decide (a = b)))) := by rw [fEq_mk (t1 := .sh (keyD a)) (t2 := .sh (keyD b)) (py_key a) (py_key b) (shaped_key ha) (shaped_key hb), eqv_key]
theorem fEq_str {x y : Str} (ha : okK (.inr x) = true) (hb : okK (.inr y) = true) : fEq (.sh (.str x)) (.sh (.str y)) P = P (.sh (.bl (decide (x = y)))) := by
  have := fEq_key (P := P) ha hb
  simpa [keyD] using this
theorem fNe_str {x y : Str} (ha : okK (.inr x) = true) (hb : okK (.inr y) = true) : fNe (.sh (.str x)) (.sh (.str y)) P = P (.sh (.bl (!decide (x = y)))) := by
  rw [fNe_mk (x := .str x) (y := .str y) rfl rfl (shaped_key ha) (shaped_key hb)]
  have e := eqv_key (.inr x) (.inr y)
  simp only [keyPy] at e
  rw [e]
  simp
theorem fEq_form {a b : List Key} (ha : okF a = true) (hb : okF b = true) : fEq (.sh (formD a)) (.sh (formD b)) P = P (.sh (.bl (decide (a = b)))) := by rw [fEq_mk (t1 := .sh (formD a)) (t2 := .sh (formD b)) (py_form a) (py_form b) (shaped_form ha) (shaped_form hb), eqv_form]
theorem fNe_form {a b : List Key} (ha : okF a = true) (hb : okF b = true) : fNe (.sh (formD a)) (.sh (formD b)) P = P (.sh (.bl (!decide (a = b)))) := by rw [fNe_mk (t1 := .sh (formD a)) (t2 := .sh (formD b)) (py_form a) (py_form b) (shaped_form ha) (shaped_form hb), eqv_form]
theorem fEq_rule {a b : Rl} (ha : okR a = true) (hb : okR b = true) : fEq (.sh (ruleD a)) (.sh (ruleD b)) P = P (.sh (.bl (decide (a = b)))) := by rw [fEq_mk (t1 := .sh (ruleD a)) (t2 := .sh (ruleD b)) (py_rule a) (py_rule b) (shaped_rule ha) (shaped_rule hb), eqv_rule]
/-! ### at a place -/
theorem fIxA_lst {xs : List D} {i : Int} : fIxA (.lst xs) (.sh (.int i)) P = ∃ d, atI xs i = some d ∧ P (.sh d) := by
  simp [fIxA, fIxT, fIxL, fIxS, fIxD, OT.asR, dGet, OT.asK, OT.asT]
theorem fIxA_slst {xs : List D} {i : Int} : fIxA (.sh (.lst xs)) (.sh (.int i)) P = ∃ d, atI xs i = some d ∧ P (.sh d) := by
  simp [fIxA, fIxT, fIxL, fIxS, fIxD, OT.asR, dGet, OT.asK, OT.asT]
theorem fIxA_fz {xs : List D} {i : Int} : fIxA (.sh (.fz xs)) (.sh (.int i)) P = ∃ d, atI xs i = some d ∧ P (.sh d) := by
  simp [fIxA, fIxT, fIxL, fIxS, fIxD, OT.asR, dGet, OT.asK, OT.asT]
theorem fIxA_tup {xs : List D} {i : Int} : fIxA (.sh (.tup xs)) (.sh (.int i)) P = ∃ d, atI xs i = some d ∧ P (.sh d) := by
  simp [fIxA, fIxT, fIxL, fIxS, fIxD, OT.asR, dGet, OT.asK, OT.asT]
theorem fIxA_str {z : Str} {i : Int} : fIxA (.sh (.str z)) (.sh (.int i)) P = (z.length ≤ sizeLine ∧ ∃ c, atI z.cps.toList i = some c ∧ P (.sh (.str ⟨#[c]⟩))) := by
  simp [fIxA, fIxT, fIxL, fIxS, fIxD, OT.asR, dGet, OT.asK, OT.asT]
theorem keyD_inj : ∀ {a b : Key}, keyD a = keyD b → a = b
  | .inl _, .inl _, h => by cases h; rfl
  | .inl _, .inr _, h => by cases h
  | .inr _, .inl _, h => by cases h
  | .inr _, .inr _, h => by cases h; rfl
theorem keysD_inj : ∀ {a b : List Key}, a.map keyD = b.map keyD → a = b
  | [], [], _ => rfl
  | [], _ :: _, h => by simp at h
  | _ :: _, [], h => by simp at h
  | x :: xs, y :: ys, h => by
    simp only [List.map_cons, List.cons.injEq] at h
    rw [keyD_inj h.1, keysD_inj h.2]
theorem formD_inj {a b : List Key} (h : formD a = formD b) : a = b := keysD_inj (D.tup.inj h)
theorem key_not_tup {k : Key} {xs : List D} : keyD k ≠ .tup xs := by cases k <;> simp [keyD]
/-- a dict by tuples, looked up -/
theorem dGet_T {t : OT} {kvs : List (List Key × D)} {f : List Key} {r : Option D} (ht : t.asT = some kvs) (hk : t.asK = none) : dGet t (.sh (formD f)) r = (r = lookK kvs f) := by
  refine propext ⟨fun h => ?_, fun h => .inr ⟨kvs, f, ht, .inl rfl, h⟩⟩
  rcases h with ⟨ds, k, e, _, _⟩ | ⟨ds, ks, e, e2, e3⟩
  · rw [hk] at e; cases e
  · rw [ht] at e
    cases e
    rcases e2 with e2 | e2
    · have := formD_inj (OT.sh.inj e2)
      rw [e3, this]
    · exact nomatch (OT.sh.inj e2)
theorem dGet_Ts {t : OT} {kvs : List (List Key × D)} {f : List Key} {r : Option D} (ht : t.asT = some kvs) (hk : t.asK = none) : dGet t (.sh (.stc (f.map keyD))) r = (r = lookK kvs f) := by
  refine propext ⟨fun h => ?_, fun h => .inr ⟨kvs, f, ht, .inr rfl, h⟩⟩
  rcases h with ⟨ds, k, e, _, _⟩ | ⟨ds, ks, e, e2, e3⟩
  · rw [hk] at e; cases e
  · rw [ht] at e
    cases e
    rcases e2 with e2 | e2
    · exact nomatch (OT.sh.inj e2)
    · have := keysD_inj (D.stc.inj (OT.sh.inj e2))
      rw [e3, this]
theorem dGet_K {t : OT} {kvs : List (Key × D)} {f : Key} {r : Option D} (ht : t.asK = some kvs) (hk : t.asT = none) : dGet t (.sh (keyD f)) r = (r = lookK kvs f) := by
  refine propext ⟨fun h => ?_, fun h => .inl ⟨kvs, f, ht, rfl, h⟩⟩
  rcases h with ⟨ds, k, e, e2, e3⟩ | ⟨ds, ks, e, _, _⟩
  · rw [ht] at e
    cases e
    rw [e3, keyD_inj (OT.sh.inj e2)]
  · rw [hk] at e; cases e
theorem fIxA_T {t : OT} {kvs : List (List Key × D)} {f : List Key} (ht : t.asT = some kvs) (hk : t.asK = none) : fIxA t (.sh (formD f)) P = ∃ d, lookK kvs f = some d ∧ P (.sh d) := by
  have h1 : (fIxT t (.sh (formD f)) P) = False := by simp [fIxT, formD]
  have h2 : (fIxL t (.sh (formD f)) P) = False := by simp [fIxL, formD]
  have h3 : (fIxS t (.sh (formD f)) P) = False := by simp [fIxS, formD]
  simp only [fIxA, h1, h2, h3, false_or, fIxD, dGet_T ht hk]
  refine propext ⟨fun ⟨d, e, p⟩ => ⟨d, e.symm, p⟩, fun ⟨d, e, p⟩ => ⟨d, e.symm, p⟩⟩
theorem fInA_T {neg : Bool} {t : OT} {kvs : List (List Key × D)} {f : List Key} (ht : t.asT = some kvs) (hk : t.asK = none) : fInA neg (.sh (formD f)) t P = P (.sh (.bl (if neg then !(lookK kvs f).isSome else (lookK kvs f).isSome))) := by
  have h1 : (fInT neg (.sh (formD f)) t P) = False := by
    simp only [fInT, eq_iff_iff, iff_false]
    rintro ⟨k, ks, e, _⟩
    exact key_not_tup (OT.sh.inj e).symm
  have h2 : (fInS neg (.sh (formD f)) t P) = False := by simp [fInS, formD]
  have h3 : (fInP neg (.sh (formD f)) t P) = False := by
    simp only [fInP, eq_iff_iff, iff_false]
    rintro ⟨x, ys, _, e, _⟩
    cases t with
    | sh d => cases d <;> simp [OT.asT] at ht <;> simp [OT.val, D.py] at e
    | dT k => simp [OT.val, D.py] at e
    | _ => simp [OT.asT] at ht
  simp only [fInA, h1, h2, h3, false_or, or_false, fInD, dGet_T ht hk]
  refine propext ⟨fun ⟨d, e, p⟩ => by rw [← e]; exact p, fun p => ⟨_, rfl, p⟩⟩
theorem fInA_K {neg : Bool} {t : OT} {kvs : List (Key × D)} {f : Key} (ht : t.asK = some kvs) (hk : t.asT = none) (ho : t.val.items = none) : fInA neg (.sh (keyD f)) t P = P (.sh (.bl (if neg then !(lookK kvs f).isSome else (lookK kvs f).isSome))) := by
  have h1 : (fInT neg (.sh (keyD f)) t P) = False := by
    simp only [fInT, eq_iff_iff, iff_false]
    rintro ⟨k, ks, _, e, _⟩
    rcases e with e | e
    · subst e; simp [OT.asK] at ht
    · cases t with
      | sh d => cases d <;> simp [OT.asK] at ht <;> simp [OT.asR] at e
      | _ => simp [OT.asK, OT.asR] at ht e
  have h2 : (fInS neg (.sh (keyD f)) t P) = False := by
    simp only [fInS, eq_iff_iff, iff_false]
    rintro ⟨c, z, _, e, _⟩
    subst e; simp [OT.asK] at ht
  have h3 : (fInP neg (.sh (keyD f)) t P) = False := by
    simp only [fInP, eq_iff_iff, iff_false]
    rintro ⟨x, ys, _, e, _⟩
    cases t with
    | sh d => cases d <;> simp [OT.asK] at ht <;> simp [OT.val, D.py] at e
    | dK k => simp [OT.val, D.py] at e
    | _ => simp [OT.asK] at ht
  simp only [fInA, h1, h2, h3, false_or, or_false, fInD, dGet_K ht hk]
  refine propext ⟨fun ⟨d, e, p⟩ => by rw [← e]; exact p, fun p => ⟨_, rfl, p⟩⟩
theorem fInA_str {neg : Bool} {c : Nat} {z : Str} : fInA neg (.sh (.str ⟨#[c]⟩)) (.sh (.str z)) P = P (.sh (.bl (if neg then !decide (c ∈ z.cps.toList) else decide (c ∈ z.cps.toList)))) := by
  have h1 : (fInT neg (.sh (.str ⟨#[c]⟩)) (.sh (.str z)) P) = False := by simp [fInT, OT.asR]
  have h2 : (fInD neg (.sh (.str ⟨#[c]⟩)) (.sh (.str z)) P) = False := by simp [fInD, dGet, OT.asK, OT.asT]
  have h3 : (fInP neg (.sh (.str ⟨#[c]⟩)) (.sh (.str z)) P) = False := by simp [fInP, OT.val, D.py]
  simp only [fInA, h1, h2, h3, false_or, or_false]
  simp [fInS]
theorem fInA_form {neg : Bool} {k : Key} {f : List Key} : fInA neg (.sh (keyD k)) (.sh (formD f)) P = P (.sh (.bl (if neg then !kMem k f else kMem k f))) := by
  have h2 : (fInS neg (.sh (keyD k)) (.sh (formD f)) P) = False := by simp [fInS, formD]
  have h3 : (fInD neg (.sh (keyD k)) (.sh (formD f)) P) = False := by simp [fInD, dGet, OT.asK, OT.asT, formD]
  have h4 : (fInP neg (.sh (keyD k)) (.sh (formD f)) P) = False := by
    simp only [fInP, eq_iff_iff, iff_false]
    rintro ⟨x, ys, _, e, _⟩
    rw [show (OT.sh (formD f)).val = formD f from rfl, py_form] at e
    cases e
  simp only [fInA, h2, h3, h4, or_false, fInT]
  refine propext ⟨fun ⟨k', ks, e1, e2, p⟩ => ?_, fun p => ⟨k, f, rfl, .inl rfl, p⟩⟩
  have e1' := keyD_inj (OT.sh.inj e1)
  rcases e2 with e2 | e2
  · have e3 := formD_inj (OT.sh.inj e2)
    rw [e1', e3]
    exact p
  · simp [OT.asR, formD] at e2
theorem fGeA_int {i j : Int} : fGeA (.sh (.int i)) (.sh (.int j)) P = P (.sh (.bl (decide (j ≤ i)))) := by simp [fGeA, fBl, intsD, strsD]
theorem fGeA_str {x y : Str} : fGeA (.sh (.str x)) (.sh (.str y)) P = P (.sh (.bl (!decide (x.cps.toList < y.cps.toList)))) := by simp [fGeA, fBl, intsD, strsD]
/-! ### slices -/
theorem fSl_tup {xs : List D} {lo hi : Option Int} : fSl (.sh (.tup xs)) lo hi P = P (.sh (.tup (cutD xs lo hi))) := by simp [fSl, OT.asR]
theorem fSl_slst {xs : List D} {lo hi : Option Int} : fSl (.sh (.lst xs)) lo hi P = P (.lst (cutD xs lo hi)) := by simp [fSl, OT.asR]
theorem fSl_lst {xs : List D} {lo hi : Option Int} : fSl (.lst xs) lo hi P = P (.lst (cutD xs lo hi)) := by simp [fSl, OT.asR]
def cutL {α : Type} (xs : List α) (lo hi : Option Int) : List α := (xs.drop (HT.sIx xs.length 0 lo)).take (HT.sIx xs.length xs.length hi - HT.sIx xs.length 0 lo)
theorem cutD_map {α : Type} (g : α → D) (xs : List α) (lo hi : Option Int) : cutD (xs.map g) lo hi = (cutL xs lo hi).map g := by simp [cutD, cutL, List.map_take, List.map_drop]
theorem fSl_form {f : List Key} {lo hi : Option Int} : fSl (.sh (formD f)) lo hi P = P (.sh (formD (cutL f lo hi))) := by rw [formD, fSl_tup, cutD_map]; rfl
theorem fAddA_form {a b : List Key} : fAddA (.sh (formD a)) (.sh (formD b)) P = (a.length + b.length ≤ sizeLine ∧ P (.sh (formD (a ++ b)))) := by
  simp [fAddA, fAdd, intsD, fAddS, fAddT, fAddL, formD, OT.asL]
theorem fAddA_int {i j : Int} : fAddA (.sh (.int i)) (.sh (.int j)) P = P (.sh (.int (i + j))) := by simp [fAddA, fAdd, intsD, fAddS, fAddT, fAddL, OT.asL]
theorem fAddA_lst {t1 t2 : OT} {xs ys : List D} (h1 : t1.asL = some xs) (h2 : t2.asL = some ys) : fAddA t1 t2 P = (xs.length + ys.length ≤ sizeLine ∧ P (.lst (xs ++ ys))) := by
  cases t1 with
  | lst a =>
    cases h1
    cases t2 with
    | lst b => cases h2; simp [fAddA, fAdd, intsD, fAddS, fAddT, fAddL, OT.asL]
    | sh d => cases d <;> simp [OT.asL] at h2; subst h2; simp [fAddA, fAdd, intsD, fAddS, fAddT, fAddL, OT.asL]
    | _ => simp [OT.asL] at h2
  | sh c =>
    cases c <;> simp [OT.asL] at h1
    subst h1
    cases t2 with
    | lst b => cases h2; simp [fAddA, fAdd, intsD, fAddS, fAddT, fAddL, OT.asL]
    | sh d => cases d <;> simp [OT.asL] at h2; subst h2; simp [fAddA, fAdd, intsD, fAddS, fAddT, fAddL, OT.asL]
    | _ => simp [OT.asL] at h2
  | _ => simp [OT.asL] at h1
theorem fMulA_int {i j : Int} : fMulA (.sh (.int i)) (.sh (.int j)) P = (CMul i j ∧ P (.sh (.int (i * j)))) := by simp [fMulA, fMul, intsD, fRep, OT.asL]
theorem fMulA_rep {xs : List D} {k : Int} : fMulA (.lst xs) (.sh (.int k)) P = (-(2 ^ 63) ≤ k ∧ k < 2 ^ 63 ∧ xs.length * k.toNat ≤ sizeLine ∧ P (.lst (List.replicate k.toNat xs).flatten)) := by
  simp [fMulA, fMul, intsD, fRep, OT.asL]
theorem atI_map {α β : Type} (g : α → β) (xs : List α) (i : Int) : atI (xs.map g) i = (atI xs i).map g := by
  unfold atI
  rw [List.length_map]
  cases ixN xs.length i with
  | none => rfl
  | some j => simp
theorem atI_nat {α : Type} (xs : List α) (i : Nat) : atI xs (i : Int) = xs[i]? := by
  unfold atI ixN
  rw [if_pos (by omega)]
  by_cases h : (i : Int) < xs.length
  · rw [if_pos h]; simp
  · rw [if_neg h, List.getElem?_eq_none (by omega)]; rfl
theorem atI_lt {α : Type} (xs : List α) {i : Int} (h0 : 0 ≤ i) (h1 : i < xs.length) : ∃ d, atI xs i = some d ∧ xs[i.toNat]? = some d := by
  have e : i = ((i.toNat : Nat) : Int) := by omega
  have hl : i.toNat < xs.length := by omega
  refine ⟨xs[i.toNat], ?_, by simp [hl]⟩
  have q := atI_nat xs i.toNat
  rw [← e] at q
  rw [q]
  simp [hl]
theorem lookK_putG {κ α : Type} [DecidableEq κ] (kvs : List (κ × α)) (k k' : κ) (v : α) : lookK (putG kvs k v) k' = if k = k' then some v else lookK kvs k' := by
  induction kvs with
  | nil =>
    by_cases h : k = k' <;> simp [putG, lookK, h]
  | cons x xs ih =>
    obtain ⟨a, b⟩ := x
    unfold putG at ih ⊢
    by_cases ha : a = k
    · subst ha
      simp only [List.any_cons, decide_true, Bool.true_or, if_true, List.map_cons, if_pos]
      by_cases h : a = k'
      · simp [lookK, h]
      · simp only [if_neg h]
        have : lookK (xs.map fun kv => if kv.1 = a then (kv.1, v) else kv) k' = lookK xs k' := by
          clear ih
          induction xs with
          | nil => rfl
          | cons y ys ih =>
            obtain ⟨c, d⟩ := y
            simp only [lookK, List.map_cons, List.find?_cons] at ih ⊢
            by_cases hc : c = a
            · subst hc
              simp only [if_pos, decide_eq_false h]
              exact ih
            · simp only [if_neg hc]
              by_cases hk : c = k'
              · simp [hk]
              · simp only [decide_eq_false hk]; exact ih
        simp only [lookK, List.find?_cons, decide_eq_false h] at this ⊢
        exact this
    · by_cases hany : (xs.any fun kv => decide (kv.1 = k)) = true
      · rw [if_pos hany] at ih
        simp only [List.any_cons, hany, Bool.or_true, if_true, List.map_cons, if_neg ha]
        simp only [lookK, List.find?_cons] at ih ⊢
        by_cases hk : a = k'
        · have : ¬ k = k' := fun z => ha (hk.trans z.symm)
          simp [hk, this]
        · simp only [decide_eq_false hk]; exact ih
      · rw [if_neg hany] at ih
        have hf : (xs.any fun kv => decide (kv.1 = k)) = false := Bool.eq_false_iff.mpr hany
        simp only [List.any_cons, hf, decide_eq_false ha, Bool.or_false, Bool.false_eq_true, if_false, List.cons_append]
        simp only [lookK, List.find?_cons] at ih ⊢
        by_cases hk : a = k'
        · have : ¬ k = k' := fun z => ha (hk.trans z.symm)
          simp [hk, this]
        · simp only [decide_eq_false hk]; exact ih
/-! ### targets -/
theorem gsCons_mk {g : WG} {gs : WGs} {d : D} {r : List D} {Γ : Env'} {Q : Env' → Prop} : gsCons g gs (d :: r) Γ Q = g (.sh d) Γ fun Γ1 => gs r Γ1 Q :=
  propext ⟨fun ⟨d', r', e, q⟩ => by cases e; exact q, fun q => ⟨d, r, rfl, q⟩⟩
theorem gsNil_mk {Γ : Env'} {Q : Env' → Prop} : gsNil [] Γ Q = Q Γ := propext ⟨fun q => q.2, fun q => ⟨rfl, q⟩⟩
theorem gTupD_mk {n : Nat} {gs : WGs} {ds : List D} {Γ : Env'} {Q : Env' → Prop} : gTupD n gs (.sh (.tup ds)) Γ Q = (ds.length = n ∧ gs ds Γ Q) :=
  propext ⟨fun ⟨ds', e, l, q⟩ => by cases e; exact ⟨l, q⟩, fun q => ⟨ds, rfl, q.1, q.2⟩⟩
theorem ex2 {α β : Sort _} {a : α} {b : β} {Q : α → β → Prop} : (∃ d1 d2, (a = d1 ∧ b = d2) ∧ Q d1 d2) = Q a b :=
  propext ⟨fun ⟨d1, d2, ⟨e1, e2⟩, q⟩ => by subst e1 e2; exact q, fun q => ⟨a, b, ⟨rfl, rfl⟩, q⟩⟩
theorem ex3 {α β γ : Sort _} {a : α} {b : β} {c : γ} {Q : α → β → γ → Prop} : (∃ d1 d2 d3, (a = d1 ∧ b = d2 ∧ c = d3) ∧ Q d1 d2 d3) = Q a b c :=
  propext ⟨fun ⟨d1, d2, d3, ⟨e1, e2, e3⟩, q⟩ => by subst e1 e2 e3; exact q, fun q => ⟨a, b, c, ⟨rfl, rfl, rfl⟩, q⟩⟩
theorem fTupOf_tup {xs : List D} : fTupOf (.sh (.tup xs)) P = P (.sh (.tup xs)) := by simp [fTupOf, OT.asR]
theorem fTupOf_lst {xs : List D} : fTupOf (.lst xs) P = P (.sh (.tup xs)) := by simp [fTupOf, OT.asR]
theorem fTupOf_slst {xs : List D} : fTupOf (.sh (.lst xs)) P = P (.sh (.tup xs)) := by simp [fTupOf, OT.asR]
theorem fTupOf_form {f : List Key} : fTupOf (.sh (formD f)) P = P (.sh (formD f)) := fTupOf_tup
theorem val_sh {d : D} : (OT.sh d).val = d := rfl
theorem val_lst {d : List D} : (OT.lst d).val = .lst d := rfl
theorem val_dT {d : List (List Key × D)} : (OT.dT d).val = .dT d := rfl
theorem val_dK {d : List (Key × D)} : (OT.dK d).val = .dK d := rfl
theorem val_ins {a : Addr} {c : Str} {d : List (Str × D)} : (OT.ins a c d).val = .ins c d := rfl
theorem tru_non : (OT.sh .non).tru = some false := rfl
theorem tru_bl {b : Bool} : (OT.sh (.bl b)).tru = some b := rfl
theorem tru_int {b : Int} : (OT.sh (.int b)).tru = some (b != 0) := rfl
theorem len_str {x : Str} : (OT.sh (.str x)).len = some x.length := rfl
theorem len_tup {x : List D} : (OT.sh (.tup x)).len = some x.length := rfl
theorem len_slst {x : List D} : (OT.sh (.lst x)).len = some x.length := rfl
theorem len_fz {x : List D} : (OT.sh (.fz x)).len = some x.length := rfl
theorem len_lst {x : List D} : (OT.lst x).len = some x.length := rfl
theorem len_form {x : List Key} : (OT.sh (formD x)).len = some x.length := by simp [formD, OT.len]
theorem isA_key {k : Key} : (OT.sh (keyD k)).isA .str = some (match k with | .inl _ => false | .inr _ => true) := by cases k <;> rfl
theorem isA_ii {i : Int} : (OT.sh (.int i)).isA .int = some true := rfl
theorem isA_is {i : Int} : (OT.sh (.int i)).isA .str = some false := rfl
theorem isA_ib {i : Int} : (OT.sh (.int i)).isA .bool = some false := rfl
theorem isA_ss {i : Str} : (OT.sh (.str i)).isA .str = some true := rfl
theorem asL_slst {x : List D} : (OT.sh (.lst x)).asL = some x := rfl
theorem asL_lst {x : List D} : (OT.lst x).asL = some x := rfl
theorem asR_slst {x : List D} : (OT.sh (.lst x)).asR = some x := rfl
theorem asR_fz {x : List D} : (OT.sh (.fz x)).asR = some x := rfl
theorem asR_lst {x : List D} : (OT.lst x).asR = some x := rfl
theorem items_lst {x : List D} : (D.lst x).items = some x := rfl
theorem items_fz {x : List D} : (D.fz x).items = some x := rfl
theorem items_tup {x : List D} : (D.tup x).items = some x := rfl
theorem items_form {x : List Key} : (formD x).items = some (x.map keyD) := rfl
theorem items_str {x : Str} : (D.str x).items = some (signs x) := rfl
theorem isD_dT {x : List (List Key × D)} : (OT.dT x).isD = true := rfl
theorem isD_sdT {x : List (List Key × D)} : (OT.sh (.dT x)).isD = true := rfl
theorem fields_ins {a : Addr} {c : Str} {d : List (Str × D)} : (OT.ins a c d).fields = some (c, d) := rfl
theorem fields_sins {c : Str} {d : List (Str × D)} : (OT.sh (.ins c d)).fields = some (c, d) := rfl
theorem atI_c0 {α : Type} {a : α} {l : List α} : atI (a :: l) 0 = some a := atI_nat (a :: l) 0
theorem atI_c1 {α : Type} {a b : α} {l : List α} : atI (a :: b :: l) 1 = some b := atI_nat (a :: b :: l) 1
theorem atI_c2 {α : Type} {a b c : α} {l : List α} : atI (a :: b :: c :: l) 2 = some c := atI_nat (a :: b :: c :: l) 2
theorem atI_c3 {α : Type} {a b c d : α} {l : List α} : atI (a :: b :: c :: d :: l) 3 = some d := atI_nat (a :: b :: c :: d :: l) 3
theorem atI_c4 {α : Type} {a b c d e : α} {l : List α} : atI (a :: b :: c :: d :: e :: l) 4 = some e := atI_nat (a :: b :: c :: d :: e :: l) 4
theorem fIxA_rule0 {r : Rl} : fIxA (.sh (ruleD r)) (.sh (.int 0)) P = P (.sh (formD r.1)) := by simp [ruleD, fIxA_tup, atI_c0]
theorem fIxA_rule1 {r : Rl} : fIxA (.sh (ruleD r)) (.sh (.int 1)) P = P (.sh (formD r.2)) := by simp [ruleD, fIxA_tup, atI_c1]
theorem gT_rule {gs : WGs} {r : Rl} {Γ : Env'} {Q : Env' → Prop} : gTupD 2 gs (.sh (ruleD r)) Γ Q = gs [formD r.1, formD r.2] Γ Q := by
  rw [ruleD, gTupD_mk]
  simp
theorem enumD_cons (n : Nat) (d : D) (ds : List D) : enumD n (d :: ds) = .tup [.int n, d] :: enumD (n + 1) ds := rfl
end
end EV

set_option maxHeartbeats 0
namespace HeadT
open PySem PySem.Spec PyProof.Rows L2
def top (i : Nat) : Stmt := PySem.Challenge.pw_fourleashes_k70_derivations_counted.main.body.getD i (.Pass ⟨0, 0, 0, 0⟩)
abbrev s0 : Stmt := inClass (top 2) 0
def d0 : He.DefD := ⟨("BadAlphabet", some "__init__"), "__init__", "BadAlphabet.__init__", defArgs s0, defBody s0, defScope s0, [], []⟩
abbrev s1 : Stmt := inClass (top 3) 0
def d1 : He.DefD := ⟨("BadText", some "__init__"), "__init__", "BadText.__init__", defArgs s1, defBody s1, defScope s1, [], []⟩
abbrev s2 : Stmt := inClass (top 4) 0
def d2 : He.DefD := ⟨("BadOrder", some "__init__"), "__init__", "BadOrder.__init__", defArgs s2, defBody s2, defScope s2, [], []⟩
abbrev s3 : Stmt := inClass (top 5) 0
def d3 : He.DefD := ⟨("BadVariables", some "__init__"), "__init__", "BadVariables.__init__", defArgs s3, defBody s3, defScope s3, [], []⟩
abbrev s4 : Stmt := inClass (top 6) 0
def d4 : He.DefD := ⟨("BadRule", some "__init__"), "__init__", "BadRule.__init__", defArgs s4, defBody s4, defScope s4, [], []⟩
abbrev s5 : Stmt := inClass (top 7) 0
def d5 : He.DefD := ⟨("BadKind", some "__init__"), "__init__", "BadKind.__init__", defArgs s5, defBody s5, defScope s5, [], []⟩
abbrev s6 : Stmt := inClass (top 8) 0
def d6 : He.DefD := ⟨("NotOfKind", some "__init__"), "__init__", "NotOfKind.__init__", defArgs s6, defBody s6, defScope s6, [], []⟩
abbrev s7 : Stmt := inClass (top 9) 0
def d7 : He.DefD := ⟨("TooMany", some "__init__"), "__init__", "TooMany.__init__", defArgs s7, defBody s7, defScope s7, [], []⟩
abbrev s8 : Stmt := top 12
def d8 : He.DefD := ⟨("is_whole", none), "is_whole", "is_whole", defArgs s8, defBody s8, defScope s8, [], []⟩
abbrev s9 : Stmt := top 13
def d9 : He.DefD := ⟨("is_alphabet", none), "is_alphabet", "is_alphabet", defArgs s9, defBody s9, defScope s9, [], []⟩
abbrev s10 : Stmt := top 14
def d10 : He.DefD := ⟨("check_alphabet", none), "check_alphabet", "check_alphabet", defArgs s10, defBody s10, defScope s10, [], []⟩
abbrev s11 : Stmt := top 15
def d11 : He.DefD := ⟨("first_stranger", none), "first_stranger", "first_stranger", defArgs s11, defBody s11, defScope s11, [], []⟩
abbrev s12 : Stmt := top 16
def d12 : He.DefD := ⟨("check_text", none), "check_text", "check_text", defArgs s12, defBody s12, defScope s12, [], []⟩
abbrev s13 : Stmt := top 18
def d13 : He.DefD := ⟨("is_variable", none), "is_variable", "is_variable", defArgs s13, defBody s13, defScope s13, [], []⟩
abbrev s14 : Stmt := top 19
def d14 : He.DefD := ⟨("is_symbol", none), "is_symbol", "is_symbol", defArgs s14, defBody s14, defScope s14, [], []⟩
abbrev s15 : Stmt := top 20
def d15 : He.DefD := ⟨("is_rule", none), "is_rule", "is_rule", defArgs s15, defBody s15, defScope s15, [], []⟩
abbrev s16 : Stmt := inClass (top 21) 0
def d16 : He.DefD := ⟨("Grammar", some "__init__"), "__init__", "Grammar.__init__", defArgs s16, defBody s16, defScope s16, [], []⟩
abbrev s17 : Stmt := inClass (top 21) 1
def d17 : He.DefD := ⟨("Grammar", some "__eq__"), "__eq__", "Grammar.__eq__", defArgs s17, defBody s17, defScope s17, [], []⟩
abbrev s18 : Stmt := top 22
def d18 : He.DefD := ⟨("start_is_brought", none), "start_is_brought", "start_is_brought", defArgs s18, defBody s18, defScope s18, [], []⟩
abbrev s19 : Stmt := top 23
def d19 : He.DefD := ⟨("is_of_kind", none), "is_of_kind", "is_of_kind", defArgs s19, defBody s19, defScope s19, [], []⟩
abbrev s20 : Stmt := top 24
def d20 : He.DefD := ⟨("breaking_rule", none), "breaking_rule", "breaking_rule", defArgs s20, defBody s20, defScope s20, [], []⟩
abbrev s21 : Stmt := top 25
def d21 : He.DefD := ⟨("check_kind", none), "check_kind", "check_kind", defArgs s21, defBody s21, defScope s21, [], []⟩
abbrev s22 : Stmt := top 28
def d22 : He.DefD := ⟨("undoings_of", none), "undoings_of", "undoings_of", defArgs s22, defBody s22, defScope s22, [], []⟩
abbrev s23 : Stmt := top 29
def d23 : He.DefD := ⟨("empty_rules", none), "empty_rules", "empty_rules", defArgs s23, defBody s23, defScope s23, [], []⟩
abbrev s24 : Stmt := top 30
def d24 : He.DefD := ⟨("found_origins", none), "found_origins", "found_origins", defArgs s24, defBody s24, defScope s24, [], []⟩
abbrev s25 : Stmt := top 31
def d25 : He.DefD := ⟨("count_derivations", none), "count_derivations", "count_derivations", defArgs s25, defBody s25, defScope s25, [], [("limit", .int 20000)]⟩
abbrev s26 : Stmt := top 33
def d26 : He.DefD := ⟨("check_order", none), "check_order", "check_order", defArgs s26, defBody s26, defScope s26, [], []⟩
abbrev s27 : Stmt := top 35
def d27 : He.DefD := ⟨("renamed_symbols", none), "renamed_symbols", "renamed_symbols", defArgs s27, defBody s27, defScope s27, [], []⟩
abbrev s28 : Stmt := top 36
def d28 : He.DefD := ⟨("renamed", none), "renamed", "renamed", defArgs s28, defBody s28, defScope s28, [], []⟩
abbrev s29 : Stmt := top 38
def d29 : He.DefD := ⟨("_law_whole", none), "_law_whole", "_law_whole", defArgs s29, defBody s29, defScope s29, [], []⟩
abbrev s30 : Stmt := top 39
def d30 : He.DefD := ⟨("_law_cell", none), "_law_cell", "_law_cell", defArgs s30, defBody s30, defScope s30, [], []⟩
abbrev s31 : Stmt := top 40
def d31 : He.DefD := ⟨("_law_digits", none), "_law_digits", "_law_digits", defArgs s31, defBody s31, defScope s31, [], []⟩
abbrev s32 : Stmt := top 41
def d32 : He.DefD := ⟨("_law_text", none), "_law_text", "_law_text", defArgs s32, defBody s32, defScope s32, [], []⟩
abbrev s33 : Stmt := top 42
def d33 : He.DefD := ⟨("_law_rewrite", none), "_law_rewrite", "_law_rewrite", defArgs s33, defBody s33, defScope s33, [], []⟩
abbrev s34 : Stmt := top 43
def d34 : He.DefD := ⟨("_law_three", none), "_law_three", "_law_three", defArgs s34, defBody s34, defScope s34, [], []⟩
abbrev s35 : Stmt := top 44
def d35 : He.DefD := ⟨("_law_befores", none), "_law_befores", "_law_befores", defArgs s35, defBody s35, defScope s35, [], []⟩
abbrev s36 : Stmt := top 45
def d36 : He.DefD := ⟨("_law_origins", none), "_law_origins", "_law_origins", defArgs s36, defBody s36, defScope s36, [], []⟩
abbrev s37 : Stmt := top 46
def d37 : He.DefD := ⟨("_law_text_by", none), "_law_text_by", "_law_text_by", defArgs s37, defBody s37, defScope s37, [], []⟩
abbrev s38 : Stmt := top 47
def d38 : He.DefD := ⟨("_law_counted_rows", none), "_law_counted_rows", "_law_counted_rows", defArgs s38, defBody s38, defScope s38, [], []⟩
abbrev s39 : Stmt := top 48
def d39 : He.DefD := ⟨("law", none), "law", "law", defArgs s39, defBody s39, defScope s39, [], []⟩
def fn0 : List He.DefD := [d0, d1, d2, d3, d4, d5, d6, d7, d8, d9, d10, d11, d12, d13, d14, d15, d16, d17, d18, d19]
def fn1 : List He.DefD := [d20, d21, d22, d23, d24, d25, d26, d27, d28, d29, d30, d31, d32, d33, d34, d35, d36, d37, d38, d39]
def fn : List He.DefD := fn0 ++ fn1
def fa0 : List He.Fa := [.glo "LeashError", .glo "BadAlphabet", .glo "BadText", .glo "BadOrder", .glo "BadVariables", .glo "BadRule", .glo "BadKind", .glo "NotOfKind", .glo "TooMany", .glo "is_whole", .glo "is_alphabet", .glo "check_alphabet", .glo "first_stranger", .glo "check_text", .glo "is_variable", .glo "is_symbol", .glo "is_rule", .glo "Grammar", .glo "start_is_brought", .glo "is_of_kind"]
def fa1 : List He.Fa := [.glo "breaking_rule", .glo "check_kind", .glo "undoings_of", .glo "empty_rules", .glo "found_origins", .glo "count_derivations", .glo "check_order", .glo "renamed_symbols", .glo "renamed", .glo "_law_whole", .glo "_law_cell", .glo "_law_digits", .glo "_law_text", .glo "_law_rewrite", .glo "_law_three", .glo "_law_befores", .glo "_law_origins", .glo "_law_text_by", .glo "_law_counted_rows", .glo "law"]
def fa2 : List He.Fa := [.free "bool", .free "enumerate", .free "int", .free "isinstance", .free "len", .free "list", .free "max", .free "range", .free "str", .free "tuple", .str "LETTERS" "abcdefghijklmnopqrstuvwxyz", .glo "START_FORM", .cls "Grammar", .mkr "Grammar", .noat "Grammar" "alphabet", .noat "Grammar" "variables", .noat "Grammar" "rules"]
def fa : List He.Fa := fa0 ++ fa1 ++ fa2
abbrev R : PySem.W.OpenRow := PySem.W.OpenLaw.row PySem.Challenge.rw_fourleashes_k70_derivations_counted
def ex (K : PySem.W.Frag) : Bool := He.tupB K "START_FORM" [.int 0]
abbrev hk : PySem.W.Hook := EV.hookE 5 fa fn ex
def ob (s : PySem.W.SharedT) : He.AlD × Bool := EV.obsE 5 fa fn ex (HandSHeadRun.getT s)
theorem ob_eq (s : PySem.W.SharedT) : ob s = hk.obs s.abs := EV.obsE_eq (HandSHeadRun.getT_eq s)
def loose0 : List Str := ["LeashError", "BadAlphabet", "BadText", "BadOrder", "BadVariables", "BadRule", "BadKind", "NotOfKind", "TooMany", "LETTERS", "is_whole", "is_alphabet", "check_alphabet", "first_stranger", "check_text", "is_variable", "is_symbol", "is_rule", "Grammar", "start_is_brought"]
def loose1 : List Str := ["is_of_kind", "breaking_rule", "check_kind", "START_FORM", "undoings_of", "empty_rules", "found_origins", "count_derivations", "check_order", "renamed_symbols", "renamed", "_law_whole", "_law_cell", "_law_digits", "_law_text", "_law_rewrite", "_law_three", "_law_befores", "_law_origins", "_law_text_by"]
def loose2 : List Str := ["_law_counted_rows"]
def loose : List Str := loose0 ++ loose1 ++ loose2
theorem run (w : World) : HandSHeadRun.RunEq R (PySem.W.view R.prog [48]) hk ob 4000 loose w := by
  intro os
  kernel_rfl
end HeadT

set_option maxHeartbeats 4000000
namespace EW
open PySem PySem.Spec L2 EV
/-! what each def does to plain data -/
def N__law_three : List Str := ["row", "alphabet", "variables", "first", "last", "rules", "symbols", "k", "part", "lefts", "left", "right", "rule"]
def b__law_three_1 : WS :=
  (wSeq (wAsg (wSl (wUse 0) (woSome (wBin fAddA (wC (.int 3)) (wBin fMulA (wC (.int 5)) (wUse 7)))) (woSome (wBin fAddA (wC (.int 8)) (wBin fMulA (wC (.int 5)) (wUse 7))))) (gVar 8))
        (wSeq (wAsg (wLst (waCons (wTup (waCons (wC (.int 0)) waNil)) (waCons (wTup (waCons (wC (.int 1)) waNil)) (waCons (wTup (waCons (wC (.int 1)) (waCons (wName 3) waNil))) (waCons (wTup (waCons (wName 3) (waCons (wC (.int 1)) waNil))) (waCons (wTup (waCons (wC (.int 0)) (waCons (wC (.int 1)) waNil))) (waCons (wTup (waCons (wC (.int 1)) (waCons (wC (.int 1)) waNil))) (waCons (wTup (waCons (wName 4) (waCons (wC (.int 1)) waNil))) waNil)))))))) (gVar 9))
        (wSeq (wAsg (wBin fIxA (wUse 9) (wBin fIxA (wUse 8) (wC (.int 0)))) (gVar 10))
        (wSeq (wAsg (wTup (waCons (wBin fIxA (wUse 6) (wBin fIxA (wUse 8) (wC (.int 1)))) (waCons (wBin fIxA (wUse 6) (wBin fIxA (wUse 8) (wC (.int 2)))) (waCons (wBin fIxA (wUse 6) (wBin fIxA (wUse 8) (wC (.int 3)))) waNil)))) (gVar 11))
        (wSeq (wAsg (wSl (wUse 11) woNone (woSome (wBin fMax (wUn fLen (wUse 10)) (wBin fIxA (wLst (waCons (wC (.int 1)) (waCons (wC (.int 2)) (waCons (wC (.int 2)) (waCons (wC (.int 2)) (waCons (wC (.int 3)) waNil)))))) (wBin fIxA (wUse 8) (wC (.int 4))))))) (gVar 11))
        (wApp 5 (wTup (waCons (wName 10) (waCons (wName 11) waNil)))))))))
theorem ub__law_three_1 (W : WEnds) (Γ : Env') : b__law_three_1 W Γ = (wSeq (wAsg (wSl (wUse 0) (woSome (wBin fAddA (wC (.int 3)) (wBin fMulA (wC (.int 5)) (wUse 7)))) (woSome (wBin fAddA (wC (.int 8)) (wBin fMulA (wC (.int 5)) (wUse 7))))) (gVar 8))
        (wSeq (wAsg (wLst (waCons (wTup (waCons (wC (.int 0)) waNil)) (waCons (wTup (waCons (wC (.int 1)) waNil)) (waCons (wTup (waCons (wC (.int 1)) (waCons (wName 3) waNil))) (waCons (wTup (waCons (wName 3) (waCons (wC (.int 1)) waNil))) (waCons (wTup (waCons (wC (.int 0)) (waCons (wC (.int 1)) waNil))) (waCons (wTup (waCons (wC (.int 1)) (waCons (wC (.int 1)) waNil))) (waCons (wTup (waCons (wName 4) (waCons (wC (.int 1)) waNil))) waNil)))))))) (gVar 9))
        (wSeq (wAsg (wBin fIxA (wUse 9) (wBin fIxA (wUse 8) (wC (.int 0)))) (gVar 10))
        (wSeq (wAsg (wTup (waCons (wBin fIxA (wUse 6) (wBin fIxA (wUse 8) (wC (.int 1)))) (waCons (wBin fIxA (wUse 6) (wBin fIxA (wUse 8) (wC (.int 2)))) (waCons (wBin fIxA (wUse 6) (wBin fIxA (wUse 8) (wC (.int 3)))) waNil)))) (gVar 11))
        (wSeq (wAsg (wSl (wUse 11) woNone (woSome (wBin fMax (wUn fLen (wUse 10)) (wBin fIxA (wLst (waCons (wC (.int 1)) (waCons (wC (.int 2)) (waCons (wC (.int 2)) (waCons (wC (.int 2)) (waCons (wC (.int 3)) waNil)))))) (wBin fIxA (wUse 8) (wC (.int 4))))))) (gVar 11))
        (wApp 5 (wTup (waCons (wName 10) (waCons (wName 11) waNil))))))))) W Γ := rfl
def e__law_three_2 : WE :=
  (wName 12)
theorem ue__law_three_2 (Γ : Env') (R : OT → Env' → Prop) : e__law_three_2 Γ R = (wName 12) Γ R := rfl
def t__law_three_3 : WT :=
  (wAnd (wTst (wBin (fInA true) (wC (.int 0)) (wBin fIxA (wUse 12) (wC (.int 1))))) (wTst (wBin fNe (wBin fIxA (wUse 12) (wC (.int 0))) (wTup (waCons (wC (.int 0)) (waCons (wC (.int 1)) waNil))))))
theorem ut__law_three_3 (Γ : Env') (R : Bool → Env' → Prop) : t__law_three_3 Γ R = (wAnd (wTst (wBin (fInA true) (wC (.int 0)) (wBin fIxA (wUse 12) (wC (.int 1))))) (wTst (wBin fNe (wBin fIxA (wUse 12) (wC (.int 0))) (wTup (waCons (wC (.int 0)) (waCons (wC (.int 1)) waNil)))))) Γ R := rfl
def w__law_three : WS :=
  (wSeq (wAsg (wBin fIxA (wLst (waCons (wC (.str "ab")) (waCons (wC (.str "a")) (waCons (wC (.str "ab")) waNil)))) (wBin fIxA (wUse 0) (wC (.int 0)))) (gVar 1))
      (wSeq (wAsg (wBin fIxA (wLst (waCons (wC (.int 2)) (waCons (wC (.int 3)) (waCons (wC (.int 2)) waNil)))) (wBin fIxA (wUse 0) (wC (.int 1)))) (gVar 2))
      (wSeq (wAsg (wBin fIxA (wUse 1) (wC (.int 0))) (gVar 3))
      (wSeq (wAsg (wBin fIxA (wUse 1) (wBin fSub (wUn fLen (wUse 1)) (wC (.int 1)))) (gVar 4))
      (wSeq (wAsg (wLst (waCons (wTup (waCons (wTup (waCons (wC (.int 0)) waNil)) (waCons (wTup (waCons (wName 3) (waCons (wC (.int 1)) waNil))) waNil))) (waCons (wTup (waCons (wTup (waCons (wC (.int 1)) waNil)) (waCons (wTup (waCons (wName 4) waNil)) waNil))) waNil))) (gVar 5))
      (wSeq (wIfS (wTst (wBin fEq (wBin fIxA (wUse 0) (wC (.int 2))) (wC (.int 1)))) (wAsg (wLst (waCons (wTup (waCons (wTup (waCons (wC (.int 0)) waNil)) (waCons (wTup (waCons (wC (.int 0)) (waCons (wC (.int 1)) waNil))) waNil))) (waCons (wTup (waCons (wTup (waCons (wC (.int 0)) waNil)) (waCons (wTup (waCons (wName 3) waNil)) waNil))) (waCons (wTup (waCons (wTup (waCons (wC (.int 1)) waNil)) (waCons (wTup (waCons (wName 4) waNil)) waNil))) waNil)))) (gVar 5)) wNext)
      (wSeq (wIfS (wTst (wBin fEq (wBin fIxA (wUse 0) (wC (.int 2))) (wC (.int 2)))) (wAsg (wLst (waCons (wTup (waCons (wTup (waCons (wC (.int 0)) waNil)) (waCons (wTup (waCons (wC (.int 1)) (waCons (wC (.int 1)) waNil))) waNil))) (waCons (wTup (waCons (wTup (waCons (wC (.int 1)) waNil)) (waCons (wTup (waCons (wName 3) waNil)) waNil))) waNil))) (gVar 5)) wNext)
      (wSeq (wAsg (wLst (waCons (wName 3) (waCons (wName 4) (waCons (wC (.int 0)) (waCons (wC (.int 1)) (waCons (wBin fSub (wUse 2) (wC (.int 1))) (waCons (wC (.int 1)) waNil))))))) (gVar 6))
      (wSeq (wFor (wiRange1 (wC (.int 4))) (gVar 7) b__law_three_1)
      (wSeq (wIfS (wAnd (wTst (wBin fEq (wBin fIxA (wUse 0) (wC (.int 1))) (wC (.int 2)))) (wTst (wBin fEq (wBin fIxA (wUse 0) (wC (.int 2))) (wC (.int 3))))) (wAsg (wBin fAddA (wLst (waCons (wTup (waCons (wTup (waCons (wC (.int 0)) waNil)) (waCons (wTup (waCons (wC (.int 1)) waNil)) waNil))) (waCons (wTup (waCons (wTup (waCons (wC (.int 0)) waNil)) (waCons (wTup waNil) waNil))) waNil))) (wLc (([("rule", 12)] : List (Str × Nat)).map (·.2)) (wiAny (wName 5)) (gVar 12) t__law_three_3 e__law_three_2)) (gVar 5)) wNext)
      (wRet (wLst (waCons (wName 1) (waCons (wName 2) (waCons (wName 5) waNil)))))))))))))))
def φ__law_three : FS := wDef N__law_three w__law_three
def N__law_digits : List Str := ["cell", "sizes", "row", "rest", "seed", "k", "size", "twice"]
def b__law_digits_1 : WS :=
  (wSeq (wApp 2 (wBin fMod (wUn fInt (wUse 3)) (wUse 6)))
          (wAsg (wBin fFdiv (wUn fInt (wUse 3)) (wUse 6)) (gVar 3)))
theorem ub__law_digits_1 (W : WEnds) (Γ : Env') : b__law_digits_1 W Γ = (wSeq (wApp 2 (wBin fMod (wUn fInt (wUse 3)) (wUse 6)))
          (wAsg (wBin fFdiv (wUn fInt (wUse 3)) (wUse 6)) (gVar 3))) W Γ := rfl
def b__law_digits_2 : WS :=
  (wSeq (wAsg (wBin fMod (wUn fInt (wBin fAddA (wBin fAddA (wBin fMulA (wUse 4) (wC (.int 48271))) (wBin fMulA (wC (.int 974711)) (wUse 5))) (wC (.int 12345)))) (wC (.int 2147483647))) (gVar 4))
        (wSeq (wAsg (wBin fMod (wUn fInt (wBin fMulA (wUse 4) (wBin fAddA (wBin fFdiv (wUse 4) (wC (.int 65537))) (wC (.int 3))))) (wC (.int 2147483629))) (gVar 7))
        (wApp 2 (wBin fMod (wBin fFdiv (wUse 7) (wC (.int 19))) (wBin fIxA (wUse 1) (wUse 5))))))
theorem ub__law_digits_2 (W : WEnds) (Γ : Env') : b__law_digits_2 W Γ = (wSeq (wAsg (wBin fMod (wUn fInt (wBin fAddA (wBin fAddA (wBin fMulA (wUse 4) (wC (.int 48271))) (wBin fMulA (wC (.int 974711)) (wUse 5))) (wC (.int 12345)))) (wC (.int 2147483647))) (gVar 4))
        (wSeq (wAsg (wBin fMod (wUn fInt (wBin fMulA (wUse 4) (wBin fAddA (wBin fFdiv (wUse 4) (wC (.int 65537))) (wC (.int 3))))) (wC (.int 2147483629))) (gVar 7))
        (wApp 2 (wBin fMod (wBin fFdiv (wUse 7) (wC (.int 19))) (wBin fIxA (wUse 1) (wUse 5)))))) W Γ := rfl
def w__law_digits : WS :=
  (wSeq (wAsg (wLst waNil) (gVar 2))
      (wSeq (wAsg (wUn fInt (wUse 0)) (gVar 3))
      (wSeq (wIfS (wTst (wBin fGeA (wUse 3) (wBin fPow (wC (.int 10)) (wC (.int 18))))) (wSeq (wAsg (wBin fMod (wUn fInt (wBin fSub (wUse 3) (wBin fPow (wC (.int 10)) (wC (.int 18))))) (wBin fPow (wC (.int 10)) (wC (.int 64)))) (gVar 3))
        (wSeq (wFor (wiAny (wName 1)) (gVar 6) b__law_digits_1)
        (wRetN 2))) wNext)
      (wSeq (wAsg (wBin fMod (wUn fInt (wUse 3)) (wC (.int 2147483629))) (gVar 4))
      (wSeq (wFor (wiRange1 (wUn fLen (wUse 1))) (gVar 5) b__law_digits_2)
      (wRetN 2))))))
def φ__law_digits : FS := wDef N__law_digits w__law_digits
def N__law_text : List Str := ["alphabet", "row", "size", "k"]
def e__law_text_1 : WE :=
  (wBin fIxA (wUse 0) (wBin fMod (wUn fInt (wBin fIxA (wUse 1) (wUse 3))) (wUn fLen (wUse 0))))
theorem ue__law_text_1 (Γ : Env') (R : OT → Env' → Prop) : e__law_text_1 Γ R = (wBin fIxA (wUse 0) (wBin fMod (wUn fInt (wBin fIxA (wUse 1) (wUse 3))) (wUn fLen (wUse 0)))) Γ R := rfl
def w__law_text : WS :=
  (wRet (wJoin (wC (.str "")) (wLc (([("k", 3)] : List (Str × Nat)).map (·.2)) (wiRange1 (wUse 2)) (gVar 3) wYes e__law_text_1)))
def φ__law_text : FS := wDef N__law_text w__law_text
def N__law_rewrite : List Str := ["rules", "form", "number", "place", "rule"]
def w__law_rewrite : WS :=
  (wSeq (wIfS (wOr (wTst (wBin (fBl fun i j => decide (i < j)) (wUse 2) (wC (.int 0)))) (wOr (wTst (wBin fGeA (wUse 2) (wUn fLen (wUse 0)))) (wTst (wBin (fBl fun i j => decide (i < j)) (wUse 3) (wC (.int 0)))))) (wRet (wC .non)) wNext)
      (wSeq (wAsg (wBin fIxA (wUse 0) (wUse 2)) (gVar 4))
      (wSeq (wIfS (wTst (wBin fNe (wUn fTupOf (wSl (wUse 1) (woSome (wUse 3)) (woSome (wBin fAddA (wUse 3) (wUn fLen (wBin fIxA (wUse 4) (wC (.int 0)))))))) (wUn fTupOf (wBin fIxA (wUse 4) (wC (.int 0)))))) (wRet (wC .non)) wNext)
      (wRet (wBin fAddA (wBin fAddA (wUn fTupOf (wSl (wUse 1) woNone (woSome (wUse 3)))) (wUn fTupOf (wBin fIxA (wUse 4) (wC (.int 1))))) (wUn fTupOf (wSl (wUse 1) (woSome (wBin fAddA (wUse 3) (wUn fLen (wBin fIxA (wUse 4) (wC (.int 0)))))) woNone)))))))
def φ__law_rewrite : FS := wDef N__law_rewrite w__law_rewrite
def N__law_text_by : List Str := ["drawn", "row", "form", "k", "ways", "number", "place", "after", "symbol", "letter"]
def b__law_text_by_1 : WS :=
  (wSeq (wAsg (wCall φ__law_rewrite (waCons (wBin fIxA (wUse 0) (wC (.int 2))) (waCons (wName 2) (waCons (wName 5) (waCons (wName 6) waNil)))) []) (gVar 7))
            (wIfS (wAnd (wTst (wBin fNotN (wUse 7) (wC .non))) (wAnd (wTst (wBin (fBl fun i j => decide (i < j)) (wC (.int 0)) (wUn fLen (wUse 7)))) (wTst (wBin (fBl fun i j => decide (i ≤ j)) (wUn fLen (wUse 7)) (wC (.int 3)))))) (wApp 4 (wName 7)) wNext))
theorem ub__law_text_by_1 (W : WEnds) (Γ : Env') : b__law_text_by_1 W Γ = (wSeq (wAsg (wCall φ__law_rewrite (waCons (wBin fIxA (wUse 0) (wC (.int 2))) (waCons (wName 2) (waCons (wName 5) (waCons (wName 6) waNil)))) []) (gVar 7))
            (wIfS (wAnd (wTst (wBin fNotN (wUse 7) (wC .non))) (wAnd (wTst (wBin (fBl fun i j => decide (i < j)) (wC (.int 0)) (wUn fLen (wUse 7)))) (wTst (wBin (fBl fun i j => decide (i ≤ j)) (wUn fLen (wUse 7)) (wC (.int 3)))))) (wApp 4 (wName 7)) wNext)) W Γ := rfl
def b__law_text_by_2 : WS :=
  (wFor (wiRange1 (wUn fLen (wUse 2))) (gVar 6) b__law_text_by_1)
theorem ub__law_text_by_2 (W : WEnds) (Γ : Env') : b__law_text_by_2 W Γ = (wFor (wiRange1 (wUn fLen (wUse 2))) (gVar 6) b__law_text_by_1) W Γ := rfl
def e__law_text_by_3 : WE :=
  (wName 8)
theorem ue__law_text_by_3 (Γ : Env') (R : OT → Env' → Prop) : e__law_text_by_3 Γ R = (wName 8) Γ R := rfl
def t__law_text_by_4 : WT :=
  (wNot (wTru (wUn (fIsA .str) (wUse 8))))
theorem ut__law_text_by_4 (Γ : Env') (R : Bool → Env' → Prop) : t__law_text_by_4 Γ R = (wNot (wTru (wUn (fIsA .str) (wUse 8)))) Γ R := rfl
def e__law_text_by_5 : WE :=
  (wName 9)
theorem ue__law_text_by_5 (Γ : Env') (R : OT → Env' → Prop) : e__law_text_by_5 Γ R = (wName 9) Γ R := rfl
def b__law_text_by_6 : WS :=
  (wSeq (wAsg (wLst waNil) (gVar 4))
        (wSeq (wFor (wiRange1 (wUn fLen (wBin fIxA (wUse 0) (wC (.int 2))))) (gVar 5) b__law_text_by_2)
        (wSeq (wIfS (wTst (wBin fEq (wUn fLen (wUse 4)) (wC (.int 0)))) (fun W Γ => W.bk Γ) wNext)
        (wSeq (wAsg (wBin fIxA (wUse 4) (wBin fMod (wUn fInt (wBin fAddA (wBin fMulA (wBin fIxA (wUse 1) (wUse 3)) (wC (.int 7))) (wBin fIxA (wUse 1) (wBin fAddA (wUse 3) (wC (.int 1)))))) (wUn fLen (wUse 4)))) (gVar 2))
        (wIfS (wTst (wBin fEq (wUn fLen (wLc (([("symbol", 8)] : List (Str × Nat)).map (·.2)) (wiAny (wName 2)) (gVar 8) t__law_text_by_4 e__law_text_by_3)) (wC (.int 0)))) (wRet (wJoin (wC (.str "")) (wLc (([("letter", 9)] : List (Str × Nat)).map (·.2)) (wiAny (wName 2)) (gVar 9) wYes e__law_text_by_5))) wNext)))))
theorem ub__law_text_by_6 (W : WEnds) (Γ : Env') : b__law_text_by_6 W Γ = (wSeq (wAsg (wLst waNil) (gVar 4))
        (wSeq (wFor (wiRange1 (wUn fLen (wBin fIxA (wUse 0) (wC (.int 2))))) (gVar 5) b__law_text_by_2)
        (wSeq (wIfS (wTst (wBin fEq (wUn fLen (wUse 4)) (wC (.int 0)))) (fun W Γ => W.bk Γ) wNext)
        (wSeq (wAsg (wBin fIxA (wUse 4) (wBin fMod (wUn fInt (wBin fAddA (wBin fMulA (wBin fIxA (wUse 1) (wUse 3)) (wC (.int 7))) (wBin fIxA (wUse 1) (wBin fAddA (wUse 3) (wC (.int 1)))))) (wUn fLen (wUse 4)))) (gVar 2))
        (wIfS (wTst (wBin fEq (wUn fLen (wLc (([("symbol", 8)] : List (Str × Nat)).map (·.2)) (wiAny (wName 2)) (gVar 8) t__law_text_by_4 e__law_text_by_3)) (wC (.int 0)))) (wRet (wJoin (wC (.str "")) (wLc (([("letter", 9)] : List (Str × Nat)).map (·.2)) (wiAny (wName 2)) (gVar 9) wYes e__law_text_by_5))) wNext))))) W Γ := rfl
def w__law_text_by : WS :=
  (wSeq (wAsg (wTup (waCons (wC (.int 0)) waNil)) (gVar 2))
      (wSeq (wFor (wiRange1 (wC (.int 9))) (gVar 3) b__law_text_by_6)
      (wRet (wCall φ__law_text (waCons (wBin fIxA (wUse 0) (wC (.int 0))) (waCons (wName 1) (waCons (wBin fAddA (wC (.int 1)) (wBin fMod (wUn fInt (wBin fIxA (wUse 1) (wC (.int 9)))) (wC (.int 3)))) waNil))) []))))
def φ__law_text_by : FS := wDef N__law_text_by w__law_text_by
def N_is_alphabet : List Str := ["value", "index"]
def b_is_alphabet_1 : WS :=
  (wSeq (wIfS (wTst (wBin (fInA true) (wBin fIxA (wUse 0) (wUse 1)) (wC (.str "abcdefghijklmnopqrstuvwxyz")))) (wRet (wC (.bl false))) wNext)
        (wIfS (wAnd (wTst (wBin (fBl fun i j => decide (j < i)) (wUse 1) (wC (.int 0)))) (wTst (wBin fGeA (wBin fIxA (wUse 0) (wBin fSub (wUse 1) (wC (.int 1)))) (wBin fIxA (wUse 0) (wUse 1))))) (wRet (wC (.bl false))) wNext))
theorem ub_is_alphabet_1 (W : WEnds) (Γ : Env') : b_is_alphabet_1 W Γ = (wSeq (wIfS (wTst (wBin (fInA true) (wBin fIxA (wUse 0) (wUse 1)) (wC (.str "abcdefghijklmnopqrstuvwxyz")))) (wRet (wC (.bl false))) wNext)
        (wIfS (wAnd (wTst (wBin (fBl fun i j => decide (j < i)) (wUse 1) (wC (.int 0)))) (wTst (wBin fGeA (wBin fIxA (wUse 0) (wBin fSub (wUse 1) (wC (.int 1)))) (wBin fIxA (wUse 0) (wUse 1))))) (wRet (wC (.bl false))) wNext)) W Γ := rfl
def w_is_alphabet : WS :=
  (wSeq (wIfS (wNot (wTst (wChain (fBl fun i j => decide (i ≤ j)) (fBl fun i j => decide (i ≤ j)) (wC (.int 1)) (wUn fLen (wUse 0)) (wC (.int 26))))) (wRet (wC (.bl false))) wNext)
      (wSeq (wFor (wiRange1 (wUn fLen (wUse 0))) (gVar 1) b_is_alphabet_1)
      (wRet (wC (.bl true)))))
def φ_is_alphabet : FS := wDef N_is_alphabet w_is_alphabet
def N_check_alphabet : List Str := ["alphabet"]
def w_check_alphabet : WS :=
  (wIfS (wNot (wTru (wCall φ_is_alphabet (waCons (wName 0) waNil) []))) wNever wNext)
def φ_check_alphabet : FS := wDef N_check_alphabet w_check_alphabet
def N_is_variable : List Str := ["symbol"]
def w_is_variable : WS :=
  (wRet (wNotV (wUn (fIsA .str) (wUse 0))))
def φ_is_variable : FS := wDef N_is_variable w_is_variable
def N_is_whole : List Str := ["value"]
def w_is_whole : WS :=
  (wRet (wAndV (wUn (fIsA .int) (wUse 0)) (wNotV (wUn (fIsA .bool) (wUse 0)))))
def φ_is_whole : FS := wDef N_is_whole w_is_whole
def N_is_symbol : List Str := ["symbol", "alphabet", "variables"]
def w_is_symbol : WS :=
  (wSeq (wIfS (wTru (wUn (fIsA .str) (wUse 0))) (wRet (wAndV (wBin fEq (wUn fLen (wUse 0)) (wC (.int 1))) (wBin (fInA false) (wUse 0) (wUse 1)))) wNext)
      (wRet (wAndV (wCall φ_is_whole (waCons (wName 0) waNil) []) (wChain (fBl fun i j => decide (i ≤ j)) (fBl fun i j => decide (i < j)) (wC (.int 0)) (wUse 0) (wUse 2)))))
def φ_is_symbol : FS := wDef N_is_symbol w_is_symbol
def N_is_rule : List Str := ["left", "right", "alphabet", "variables", "symbol"]
def b_is_rule_1 : WS :=
  (wIfS (wNot (wTru (wCall φ_is_symbol (waCons (wName 4) (waCons (wName 2) (waCons (wName 3) waNil))) []))) (wRet (wC (.bl false))) wNext)
theorem ub_is_rule_1 (W : WEnds) (Γ : Env') : b_is_rule_1 W Γ = (wIfS (wNot (wTru (wCall φ_is_symbol (waCons (wName 4) (waCons (wName 2) (waCons (wName 3) waNil))) []))) (wRet (wC (.bl false))) wNext) W Γ := rfl
def b_is_rule_2 : WS :=
  (wIfS (wTru (wCall φ_is_variable (waCons (wName 4) waNil) [])) (wRet (wC (.bl true))) wNext)
theorem ub_is_rule_2 (W : WEnds) (Γ : Env') : b_is_rule_2 W Γ = (wIfS (wTru (wCall φ_is_variable (waCons (wName 4) waNil) [])) (wRet (wC (.bl true))) wNext) W Γ := rfl
def w_is_rule : WS :=
  (wSeq (wFor (wiAny (wBin fAddA (wUse 0) (wUse 1))) (gVar 4) b_is_rule_1)
      (wSeq (wFor (wiAny (wName 0)) (gVar 4) b_is_rule_2)
      (wRet (wC (.bl false)))))
def φ_is_rule : FS := wDef N_is_rule w_is_rule
def N_Grammar_init : List Str := ["self", "alphabet", "variables", "rules", "kept", "index", "rule", "left", "right"]
def b_Grammar_init_1 : WS :=
  (wSeq (wPar 7 8 (waCons (wUn fTupOf (wBin fIxA (wUse 6) (wC (.int 0)))) (waCons (wUn fTupOf (wBin fIxA (wUse 6) (wC (.int 1)))) waNil)))
        (wSeq (wIfS (wNot (wTru (wCall φ_is_rule (waCons (wName 7) (waCons (wName 8) (waCons (wName 1) (waCons (wName 2) waNil)))) []))) wNever wNext)
        (wApp 4 (wTup (waCons (wName 7) (waCons (wName 8) waNil))))))
theorem ub_Grammar_init_1 (W : WEnds) (Γ : Env') : b_Grammar_init_1 W Γ = (wSeq (wPar 7 8 (waCons (wUn fTupOf (wBin fIxA (wUse 6) (wC (.int 0)))) (waCons (wUn fTupOf (wBin fIxA (wUse 6) (wC (.int 1)))) waNil)))
        (wSeq (wIfS (wNot (wTru (wCall φ_is_rule (waCons (wName 7) (waCons (wName 8) (waCons (wName 1) (waCons (wName 2) waNil)))) []))) wNever wNext)
        (wApp 4 (wTup (waCons (wName 7) (waCons (wName 8) waNil)))))) W Γ := rfl
def w_Grammar_init : WS :=
  (wSeq (wDrop (wCall φ_check_alphabet (waCons (wName 1) waNil) []))
      (wSeq (wIfS (wTst (wBin (fBl fun i j => decide (i < j)) (wUse 2) (wC (.int 1)))) wNever wNext)
      (wSeq (wAsg (wLst waNil) (gVar 4))
      (wSeq (wFor (wiEn (wName 3)) (gTupD 2 (gsCons (gVar 5) (gsCons (gVar 6) gsNil))) b_Grammar_init_1)
      (wSeq (wSetF 0 ["Grammar"] "alphabet" (wName 1))
      (wSeq (wSetF 0 ["Grammar"] "variables" (wName 2))
      (wSetF 0 ["Grammar"] "rules" (wUn fTupOf (wUse 4)))))))))
def φ_Grammar_init : FI := wInit "Grammar" N_Grammar_init w_Grammar_init
def N__law_befores : List Str := ["rules", "form", "out", "number", "right", "place"]
def b__law_befores_1 : WS :=
  (wIfS (wAnd (wTst (wBin (fBl fun i j => decide (j < i)) (wUn fLen (wUse 4)) (wC (.int 0)))) (wTst (wBin fEq (wSl (wUse 1) (woSome (wUse 5)) (woSome (wBin fAddA (wUse 5) (wUn fLen (wUse 4))))) (wUse 4)))) (wApp 2 (wLst (waCons (wName 3) (waCons (wName 5) (waCons (wBin fAddA (wBin fAddA (wSl (wUse 1) woNone (woSome (wUse 5))) (wBin fIxA (wBin fIxA (wUse 0) (wUse 3)) (wC (.int 0)))) (wSl (wUse 1) (woSome (wBin fAddA (wUse 5) (wUn fLen (wUse 4)))) woNone)) waNil))))) wNext)
theorem ub__law_befores_1 (W : WEnds) (Γ : Env') : b__law_befores_1 W Γ = (wIfS (wAnd (wTst (wBin (fBl fun i j => decide (j < i)) (wUn fLen (wUse 4)) (wC (.int 0)))) (wTst (wBin fEq (wSl (wUse 1) (woSome (wUse 5)) (woSome (wBin fAddA (wUse 5) (wUn fLen (wUse 4))))) (wUse 4)))) (wApp 2 (wLst (waCons (wName 3) (waCons (wName 5) (waCons (wBin fAddA (wBin fAddA (wSl (wUse 1) woNone (woSome (wUse 5))) (wBin fIxA (wBin fIxA (wUse 0) (wUse 3)) (wC (.int 0)))) (wSl (wUse 1) (woSome (wBin fAddA (wUse 5) (wUn fLen (wUse 4)))) woNone)) waNil))))) wNext) W Γ := rfl
def b__law_befores_2 : WS :=
  (wSeq (wAsg (wBin fIxA (wBin fIxA (wUse 0) (wUse 3)) (wC (.int 1))) (gVar 4))
        (wFor (wiRange1 (wBin fAddA (wBin fSub (wUn fLen (wUse 1)) (wUn fLen (wUse 4))) (wC (.int 1)))) (gVar 5) b__law_befores_1))
theorem ub__law_befores_2 (W : WEnds) (Γ : Env') : b__law_befores_2 W Γ = (wSeq (wAsg (wBin fIxA (wBin fIxA (wUse 0) (wUse 3)) (wC (.int 1))) (gVar 4))
        (wFor (wiRange1 (wBin fAddA (wBin fSub (wUn fLen (wUse 1)) (wUn fLen (wUse 4))) (wC (.int 1)))) (gVar 5) b__law_befores_1)) W Γ := rfl
def w__law_befores : WS :=
  (wSeq (wAsg (wLst waNil) (gVar 2))
      (wSeq (wFor (wiRange1 (wUn fLen (wUse 0))) (gVar 3) b__law_befores_2)
      (wRetN 2)))
def φ__law_befores : FS := wDef N__law_befores w__law_befores
def N__law_counted_rows : List Str := ["rules", "text", "pairs", "total", "level", "turn", "after", "form", "triple", "letter"]
def e__law_counted_rows_1 : WE :=
  (wName 9)
theorem ue__law_counted_rows_1 (Γ : Env') (R : OT → Env' → Prop) : e__law_counted_rows_1 Γ R = (wName 9) Γ R := rfl
def b__law_counted_rows_2 : WS :=
  (wPut 6 (wBin fIxA (wUse 8) (wC (.int 2))) (wBin fAddA (wGet2 (wUse 6) (wBin fIxA (wUse 8) (wC (.int 2))) (wC (.int 0))) (wBin fIxA (wUse 4) (wUse 7))))
theorem ub__law_counted_rows_2 (W : WEnds) (Γ : Env') : b__law_counted_rows_2 W Γ = (wPut 6 (wBin fIxA (wUse 8) (wC (.int 2))) (wBin fAddA (wGet2 (wUse 6) (wBin fIxA (wUse 8) (wC (.int 2))) (wC (.int 0))) (wBin fIxA (wUse 4) (wUse 7)))) W Γ := rfl
def b__law_counted_rows_3 : WS :=
  (wFor (wiAny (wCall φ__law_befores (waCons (wName 0) (waCons (wName 7) waNil)) [])) (gVar 8) b__law_counted_rows_2)
theorem ub__law_counted_rows_3 (W : WEnds) (Γ : Env') : b__law_counted_rows_3 W Γ = (wFor (wiAny (wCall φ__law_befores (waCons (wName 0) (waCons (wName 7) waNil)) [])) (gVar 8) b__law_counted_rows_2) W Γ := rfl
def b__law_counted_rows_4 : WS :=
  (wSeq (wAsg wD0 (gVar 6))
        (wSeq (wForK 4 (gVar 7) b__law_counted_rows_3)
        (wSeq (wAsg (wBin fAddA (wUse 3) (wGet2 (wUse 6) (wTup (waCons (wC (.int 0)) waNil)) (wC (.int 0)))) (gVar 3))
        (wAsg (wName 6) (gVar 4)))))
theorem ub__law_counted_rows_4 (W : WEnds) (Γ : Env') : b__law_counted_rows_4 W Γ = (wSeq (wAsg wD0 (gVar 6))
        (wSeq (wForK 4 (gVar 7) b__law_counted_rows_3)
        (wSeq (wAsg (wBin fAddA (wUse 3) (wGet2 (wUse 6) (wTup (waCons (wC (.int 0)) waNil)) (wC (.int 0)))) (gVar 3))
        (wAsg (wName 6) (gVar 4))))) W Γ := rfl
def w__law_counted_rows : WS :=
  (wSeq (wAsg (wC (.int 0)) (gVar 3))
      (wSeq (wAsg (wDisp (wUn fTupOf (wLc (([("letter", 9)] : List (Str × Nat)).map (·.2)) (wiAny (wName 1)) (gVar 9) wYes e__law_counted_rows_1)) (wC (.int 1))) (gVar 4))
      (wSeq (wFor (wiRange1 (wUse 2)) (gVar 5) b__law_counted_rows_4)
      (wRetN 3))))
def φ__law_counted_rows : FS := wDef N__law_counted_rows w__law_counted_rows
def N_start_is_brought : List Str := ["rules", "left", "right", "symbol"]
def b_start_is_brought_1 : WS :=
  (wIfS (wAnd (wTru (wCall φ_is_variable (waCons (wName 3) waNil) [])) (wTst (wBin fEq (wUse 3) (wC (.int 0))))) (wRet (wC (.bl true))) wNext)
theorem ub_start_is_brought_1 (W : WEnds) (Γ : Env') : b_start_is_brought_1 W Γ = (wIfS (wAnd (wTru (wCall φ_is_variable (waCons (wName 3) waNil) [])) (wTst (wBin fEq (wUse 3) (wC (.int 0))))) (wRet (wC (.bl true))) wNext) W Γ := rfl
def b_start_is_brought_2 : WS :=
  (wFor (wiAny (wName 2)) (gVar 3) b_start_is_brought_1)
theorem ub_start_is_brought_2 (W : WEnds) (Γ : Env') : b_start_is_brought_2 W Γ = (wFor (wiAny (wName 2)) (gVar 3) b_start_is_brought_1) W Γ := rfl
def w_start_is_brought : WS :=
  (wSeq (wFor (wiAny (wName 0)) (gTupD 2 (gsCons (gVar 1) (gsCons (gVar 2) gsNil))) b_start_is_brought_2)
      (wRet (wC (.bl false))))
def φ_start_is_brought : FS := wDef N_start_is_brought w_start_is_brought
def N_is_of_kind : List Str := ["left", "right", "kind"]
def w_is_of_kind : WS :=
  (wSeq (wIfS (wTst (wBin fEq (wUse 2) (wC (.int 1)))) (wSeq (wIfS (wOr (wTst (wBin fNe (wUn fLen (wUse 0)) (wC (.int 1)))) (wOr (wNot (wTst (wChain (fBl fun i j => decide (i ≤ j)) (fBl fun i j => decide (i ≤ j)) (wC (.int 1)) (wUn fLen (wUse 1)) (wC (.int 2))))) (wTru (wCall φ_is_variable (waCons (wBin fIxA (wUse 1) (wC (.int 0))) waNil) [])))) (wRet (wC (.bl false))) wNext)
        (wRet (wOrV (wBin fEq (wUn fLen (wUse 1)) (wC (.int 1))) (wCall φ_is_variable (waCons (wBin fIxA (wUse 1) (wC (.int 1))) waNil) [])))) wNext)
      (wSeq (wIfS (wTst (wBin fEq (wUse 2) (wC (.int 2)))) (wRet (wBin fEq (wUn fLen (wUse 0)) (wC (.int 1)))) wNext)
      (wRet (wOrV (wBin fEq (wUse 2) (wC (.int 4))) (wBin (fBl fun i j => decide (i ≤ j)) (wUn fLen (wUse 0)) (wUn fLen (wUse 1)))))))
def φ_is_of_kind : FS := wDef N_is_of_kind w_is_of_kind
def N_breaking_rule : List Str := ["grammar", "kind", "lets_empty", "index", "empty", "left", "right"]
def b_breaking_rule_1 : WS :=
  (wSeq (wAsg (wAndV (wName 2) (wAndV (wBin fEq (wUse 5) (wTup (waCons (wC (.int 0)) waNil))) (wBin fEq (wUse 6) (wTup waNil)))) (gVar 4))
        (wIfS (wAnd (wNot (wTru (wUse 4))) (wNot (wTru (wCall φ_is_of_kind (waCons (wName 5) (waCons (wName 6) (waCons (wName 1) waNil))) [])))) (wRetN 3) wNext))
theorem ub_breaking_rule_1 (W : WEnds) (Γ : Env') : b_breaking_rule_1 W Γ = (wSeq (wAsg (wAndV (wName 2) (wAndV (wBin fEq (wUse 5) (wTup (waCons (wC (.int 0)) waNil))) (wBin fEq (wUse 6) (wTup waNil)))) (gVar 4))
        (wIfS (wAnd (wNot (wTru (wUse 4))) (wNot (wTru (wCall φ_is_of_kind (waCons (wName 5) (waCons (wName 6) (waCons (wName 1) waNil))) [])))) (wRetN 3) wNext)) W Γ := rfl
def w_breaking_rule : WS :=
  (wSeq (wIfS (wNot (wTst (wChain (fBl fun i j => decide (i ≤ j)) (fBl fun i j => decide (i ≤ j)) (wC (.int 1)) (wUse 1) (wC (.int 4))))) wNever wNext)
      (wSeq (wAsg (wAndV (wBin (fInA false) (wUse 1) (wTup (waCons (wC (.int 1)) (waCons (wC (.int 3)) waNil)))) (wNotV (wCall φ_start_is_brought (waCons (wFld ["Grammar"] (wUse 0) "rules") waNil) []))) (gVar 2))
      (wSeq (wFor (wiEn (wFld ["Grammar"] (wUse 0) "rules")) (gTupD 2 (gsCons (gVar 3) (gsCons (gTupD 2 (gsCons (gVar 5) (gsCons (gVar 6) gsNil))) gsNil))) b_breaking_rule_1)
      (wRet (wC .non)))))
def φ_breaking_rule : FS := wDef N_breaking_rule w_breaking_rule
def N_check_kind : List Str := ["grammar", "kind", "index"]
def w_check_kind : WS :=
  (wSeq (wAsg (wCall φ_breaking_rule (waCons (wName 0) (waCons (wName 1) waNil)) []) (gVar 2))
      (wIfS (wTst (wBin fNotN (wUse 2) (wC .non))) wNever wNext))
def φ_check_kind : FS := wDef N_check_kind w_check_kind
def N_first_stranger : List Str := ["alphabet", "text", "index"]
def b_first_stranger_1 : WS :=
  (wIfS (wTst (wBin (fInA true) (wBin fIxA (wUse 1) (wUse 2)) (wUse 0))) (wRetN 2) wNext)
theorem ub_first_stranger_1 (W : WEnds) (Γ : Env') : b_first_stranger_1 W Γ = (wIfS (wTst (wBin (fInA true) (wBin fIxA (wUse 1) (wUse 2)) (wUse 0))) (wRetN 2) wNext) W Γ := rfl
def w_first_stranger : WS :=
  (wSeq (wFor (wiRange1 (wUn fLen (wUse 1))) (gVar 2) b_first_stranger_1)
      (wRet (wC .non)))
def φ_first_stranger : FS := wDef N_first_stranger w_first_stranger
def N_check_text : List Str := ["alphabet", "text", "index"]
def w_check_text : WS :=
  (wSeq (wDrop (wCall φ_check_alphabet (waCons (wName 0) waNil) []))
      (wSeq (wAsg (wCall φ_first_stranger (waCons (wName 0) (waCons (wName 1) waNil)) []) (gVar 2))
      (wIfS (wTst (wBin fNotN (wUse 2) (wC .non))) wNever wNext)))
def φ_check_text : FS := wDef N_check_text w_check_text
def N_undoings_of : List Str := ["grammar", "form", "out", "number", "place", "left", "right"]
def b_undoings_of_1 : WS :=
  (wIfS (wAnd (wTst (wBin (fBl fun i j => decide (j < i)) (wUn fLen (wUse 6)) (wC (.int 0)))) (wTst (wBin fEq (wSl (wUse 1) (woSome (wUse 4)) (woSome (wBin fAddA (wUse 4) (wUn fLen (wUse 6))))) (wUse 6)))) (wApp 2 (wTup (waCons (wName 3) (waCons (wName 4) (waCons (wBin fAddA (wBin fAddA (wSl (wUse 1) woNone (woSome (wUse 4))) (wUse 5)) (wSl (wUse 1) (woSome (wBin fAddA (wUse 4) (wUn fLen (wUse 6)))) woNone)) waNil))))) wNext)
theorem ub_undoings_of_1 (W : WEnds) (Γ : Env') : b_undoings_of_1 W Γ = (wIfS (wAnd (wTst (wBin (fBl fun i j => decide (j < i)) (wUn fLen (wUse 6)) (wC (.int 0)))) (wTst (wBin fEq (wSl (wUse 1) (woSome (wUse 4)) (woSome (wBin fAddA (wUse 4) (wUn fLen (wUse 6))))) (wUse 6)))) (wApp 2 (wTup (waCons (wName 3) (waCons (wName 4) (waCons (wBin fAddA (wBin fAddA (wSl (wUse 1) woNone (woSome (wUse 4))) (wUse 5)) (wSl (wUse 1) (woSome (wBin fAddA (wUse 4) (wUn fLen (wUse 6)))) woNone)) waNil))))) wNext) W Γ := rfl
def b_undoings_of_2 : WS :=
  (wFor (wiRange1 (wBin fAddA (wBin fSub (wUn fLen (wUse 1)) (wUn fLen (wUse 6))) (wC (.int 1)))) (gVar 4) b_undoings_of_1)
theorem ub_undoings_of_2 (W : WEnds) (Γ : Env') : b_undoings_of_2 W Γ = (wFor (wiRange1 (wBin fAddA (wBin fSub (wUn fLen (wUse 1)) (wUn fLen (wUse 6))) (wC (.int 1)))) (gVar 4) b_undoings_of_1) W Γ := rfl
def w_undoings_of : WS :=
  (wSeq (wAsg (wLst waNil) (gVar 2))
      (wSeq (wFor (wiEn (wFld ["Grammar"] (wUse 0) "rules")) (gTupD 2 (gsCons (gVar 3) (gsCons (gTupD 2 (gsCons (gVar 5) (gsCons (gVar 6) gsNil))) gsNil))) b_undoings_of_2)
      (wRetN 2)))
def φ_undoings_of : FS := wDef N_undoings_of w_undoings_of
def N_found_origins : List Str := ["grammar", "text", "limit", "form", "found", "behind", "index", "number", "place", "before", "letter"]
def e_found_origins_1 : WE :=
  (wName 10)
theorem ue_found_origins_1 (Γ : Env') (R : OT → Env' → Prop) : e_found_origins_1 Γ R = (wName 10) Γ R := rfl
def b_found_origins_2 : WS :=
  (wIfS (wTst (wBin (fInA true) (wUse 9) (wUse 5))) (wSeq (wIfS (wTst (wBin fGeA (wUn fLen (wUse 4)) (wUse 2))) wNever wNext)
            (wSeq (wPut 5 (wUse 9) (wTup (waCons (wBin fIxA (wUse 4) (wUse 6)) (waCons (wName 7) (waCons (wName 8) waNil)))))
            (wApp 4 (wName 9)))) wNext)
theorem ub_found_origins_2 (W : WEnds) (Γ : Env') : b_found_origins_2 W Γ = (wIfS (wTst (wBin (fInA true) (wUse 9) (wUse 5))) (wSeq (wIfS (wTst (wBin fGeA (wUn fLen (wUse 4)) (wUse 2))) wNever wNext)
            (wSeq (wPut 5 (wUse 9) (wTup (waCons (wBin fIxA (wUse 4) (wUse 6)) (waCons (wName 7) (waCons (wName 8) waNil)))))
            (wApp 4 (wName 9)))) wNext) W Γ := rfl
def b_found_origins_3 : WS :=
  (wSeq (wFor (wiAny (wCall φ_undoings_of (waCons (wName 0) (waCons (wBin fIxA (wUse 4) (wUse 6)) waNil)) [])) (gTupD 3 (gsCons (gVar 7) (gsCons (gVar 8) (gsCons (gVar 9) gsNil)))) b_found_origins_2)
        (wAugI 6 (fun i j => i + j) (wC (.int 1))))
theorem ub_found_origins_3 (W : WEnds) (Γ : Env') : b_found_origins_3 W Γ = (wSeq (wFor (wiAny (wCall φ_undoings_of (waCons (wName 0) (waCons (wBin fIxA (wUse 4) (wUse 6)) waNil)) [])) (gTupD 3 (gsCons (gVar 7) (gsCons (gVar 8) (gsCons (gVar 9) gsNil)))) b_found_origins_2)
        (wAugI 6 (fun i j => i + j) (wC (.int 1)))) W Γ := rfl
def t_found_origins_4 : WT :=
  (wAnd (wTst (wBin (fBl fun i j => decide (i < j)) (wUse 6) (wUn fLen (wUse 4)))) (wTst (wBin fNe (wUse 1) (wC (.str "")))))
theorem ut_found_origins_4 (Γ : Env') (R : Bool → Env' → Prop) : t_found_origins_4 Γ R = (wAnd (wTst (wBin (fBl fun i j => decide (i < j)) (wUse 6) (wUn fLen (wUse 4)))) (wTst (wBin fNe (wUse 1) (wC (.str ""))))) Γ R := rfl
def w_found_origins : WS :=
  (wSeq (wAsg (wUn fTupOf (wLc (([("letter", 10)] : List (Str × Nat)).map (·.2)) (wiAny (wName 1)) (gVar 10) wYes e_found_origins_1)) (gVar 3))
      (wSeq (wAsg (wLst (waCons (wName 3) waNil)) (gVar 4))
      (wSeq (wAsg (wDisp (wUse 3) (wC .non)) (gVar 5))
      (wSeq (wAsg (wC (.int 0)) (gVar 6))
      (wSeq (wWhile t_found_origins_4 b_found_origins_3)
      (wRet (wTup (waCons (wName 4) (waCons (wName 5) waNil)))))))))
def φ_found_origins : FS := wDef N_found_origins w_found_origins
def N_empty_rules : List Str := ["grammar", "number", "rule"]
def e_empty_rules_1 : WE :=
  (wName 1)
theorem ue_empty_rules_1 (Γ : Env') (R : OT → Env' → Prop) : e_empty_rules_1 Γ R = (wName 1) Γ R := rfl
def t_empty_rules_2 : WT :=
  (wTst (wBin fEq (wUse 2) (wTup (waCons (wC (.stc [(.int 0)])) (waCons (wTup waNil) waNil)))))
theorem ut_empty_rules_2 (Γ : Env') (R : Bool → Env' → Prop) : t_empty_rules_2 Γ R = (wTst (wBin fEq (wUse 2) (wTup (waCons (wC (.stc [(.int 0)])) (waCons (wTup waNil) waNil))))) Γ R := rfl
def w_empty_rules : WS :=
  (wRet (wLc (([("number", 1), ("rule", 2)] : List (Str × Nat)).map (·.2)) (wiEn (wFld ["Grammar"] (wUse 0) "rules")) (gTupD 2 (gsCons (gVar 1) (gsCons (gVar 2) gsNil))) t_empty_rules_2 e_empty_rules_1))
def φ_empty_rules : FS := wDef N_empty_rules w_empty_rules
def N_count_derivations : List Str := ["grammar", "text", "steps", "limit", "found", "befores", "ways", "total", "turn", "news", "form", "before", "number", "place"]
def e_count_derivations_1 : WE :=
  (wName 11)
theorem ue_count_derivations_1 (Γ : Env') (R : OT → Env' → Prop) : e_count_derivations_1 Γ R = (wName 11) Γ R := rfl
def e_count_derivations_2 : WE :=
  (wLc (([("number", 12), ("place", 13), ("before", 11)] : List (Str × Nat)).map (·.2)) (wiAny (wCall φ_undoings_of (waCons (wName 0) (waCons (wName 10) waNil)) [])) (gTupD 3 (gsCons (gVar 12) (gsCons (gVar 13) (gsCons (gVar 11) gsNil)))) wYes e_count_derivations_1)
theorem ue_count_derivations_2 (Γ : Env') (R : OT → Env' → Prop) : e_count_derivations_2 Γ R = (wLc (([("number", 12), ("place", 13), ("before", 11)] : List (Str × Nat)).map (·.2)) (wiAny (wCall φ_undoings_of (waCons (wName 0) (waCons (wName 10) waNil)) [])) (gTupD 3 (gsCons (gVar 12) (gsCons (gVar 13) (gsCons (gVar 11) gsNil)))) wYes e_count_derivations_1) Γ R := rfl
def e_count_derivations_3 : WE :=
  (wC (.int 0))
theorem ue_count_derivations_3 (Γ : Env') (R : OT → Env' → Prop) : e_count_derivations_3 Γ R = (wC (.int 0)) Γ R := rfl
def e_count_derivations_4 : WE :=
  (wC (.int 0))
theorem ue_count_derivations_4 (Γ : Env') (R : OT → Env' → Prop) : e_count_derivations_4 Γ R = (wC (.int 0)) Γ R := rfl
def b_count_derivations_5 : WS :=
  (wPut 9 (wUse 11) (wBin fAddA (wBin fIxA (wUse 9) (wUse 11)) (wBin fIxA (wUse 6) (wUse 10))))
theorem ub_count_derivations_5 (W : WEnds) (Γ : Env') : b_count_derivations_5 W Γ = (wPut 9 (wUse 11) (wBin fAddA (wBin fIxA (wUse 9) (wUse 11)) (wBin fIxA (wUse 6) (wUse 10)))) W Γ := rfl
def b_count_derivations_6 : WS :=
  (wFor (wiAny (wBin fIxA (wUse 5) (wUse 10))) (gVar 11) b_count_derivations_5)
theorem ub_count_derivations_6 (W : WEnds) (Γ : Env') : b_count_derivations_6 W Γ = (wFor (wiAny (wBin fIxA (wUse 5) (wUse 10))) (gVar 11) b_count_derivations_5) W Γ := rfl
def b_count_derivations_7 : WS :=
  (wSeq (wAsg (wDcT (([("form", 10)] : List (Str × Nat)).map (·.2)) (wiAny (wName 4)) (gVar 10) wYes (wUse 10) e_count_derivations_4) (gVar 9))
        (wSeq (wFor (wiAny (wName 4)) (gVar 10) b_count_derivations_6)
        (wSeq (wAsg (wName 9) (gVar 6))
        (wAsg (wBin fAddA (wUse 7) (wGet2 (wUse 6) (wC (.stc [(.int 0)])) (wC (.int 0)))) (gVar 7)))))
theorem ub_count_derivations_7 (W : WEnds) (Γ : Env') : b_count_derivations_7 W Γ = (wSeq (wAsg (wDcT (([("form", 10)] : List (Str × Nat)).map (·.2)) (wiAny (wName 4)) (gVar 10) wYes (wUse 10) e_count_derivations_4) (gVar 9))
        (wSeq (wFor (wiAny (wName 4)) (gVar 10) b_count_derivations_6)
        (wSeq (wAsg (wName 9) (gVar 6))
        (wAsg (wBin fAddA (wUse 7) (wGet2 (wUse 6) (wC (.stc [(.int 0)])) (wC (.int 0)))) (gVar 7))))) W Γ := rfl
def w_count_derivations : WS :=
  (wSeq (wDrop (wCall φ_check_kind (waCons (wName 0) (waCons (wC (.int 3)) waNil)) []))
      (wSeq (wDrop (wCall φ_check_text (waCons (wFld ["Grammar"] (wUse 0) "alphabet") (waCons (wName 1) waNil)) []))
      (wSeq (wIfS (wTst (wBin fEq (wUse 1) (wC (.str "")))) (wRet (wIf (wTst (wBin (fBl fun i j => decide (j < i)) (wUse 2) (wC (.int 0)))) (wUn fLen (wCall φ_empty_rules (waCons (wName 0) waNil) [])) (wC (.int 0)))) wNext)
      (wSeq (wAsg (wBin fIxA (wCall φ_found_origins (waCons (wName 0) (waCons (wName 1) (waCons (wName 3) waNil))) []) (wC (.int 0))) (gVar 4))
      (wSeq (wAsg (wDcT (([("form", 10)] : List (Str × Nat)).map (·.2)) (wiAny (wName 4)) (gVar 10) wYes (wUse 10) e_count_derivations_2) (gVar 5))
      (wSeq (wAsg (wDcT (([("form", 10)] : List (Str × Nat)).map (·.2)) (wiAny (wName 4)) (gVar 10) wYes (wUse 10) e_count_derivations_3) (gVar 6))
      (wSeq (wPut 6 (wBin fIxA (wUse 4) (wC (.int 0))) (wC (.int 1)))
      (wSeq (wAsg (wC (.int 0)) (gVar 7))
      (wSeq (wFor (wiRange1 (wUse 2)) (gVar 8) b_count_derivations_7)
      (wRetN 7))))))))))
def φ_count_derivations : FS := wDef N_count_derivations w_count_derivations
def N__law_cell : List Str := ["script", "k", "seed", "cell"]
def b__law_cell_1 : WS :=
  (wAsg (wBin fMod (wUn fInt (wBin fAddA (wBin fMulA (wUse 2) (wC (.int 31))) (wBin fMod (wUn fInt (wUse 3)) (wC (.int 1000003))))) (wC (.int 1000003))) (gVar 2))
theorem ub__law_cell_1 (W : WEnds) (Γ : Env') : b__law_cell_1 W Γ = (wAsg (wBin fMod (wUn fInt (wBin fAddA (wBin fMulA (wUse 2) (wC (.int 31))) (wBin fMod (wUn fInt (wUse 3)) (wC (.int 1000003))))) (wC (.int 1000003))) (gVar 2)) W Γ := rfl
def w__law_cell : WS :=
  (wSeq (wIfS (wTst (wBin (fBl fun i j => decide (i < j)) (wUse 1) (wUn fLen (wUse 0)))) (wRet (wBin fIxA (wUse 0) (wUse 1))) wNext)
      (wSeq (wAsg (wC (.int 17)) (gVar 2))
      (wSeq (wFor (wiAny (wName 0)) (gVar 3) b__law_cell_1)
      (wRet (wBin fMod (wUn fInt (wBin fMulA (wBin fMulA (wBin fAddA (wUse 2) (wC (.int 7))) (wBin fAddA (wUse 1) (wC (.int 3)))) (wC (.int 69621)))) (wC (.int 2147483647)))))))
def φ__law_cell : FS := wDef N__law_cell w__law_cell
def N__law_whole : List Str := ["value"]
def w__law_whole : WS :=
  (wRet (wAndV (wUn (fIsA .int) (wUse 0)) (wNotV (wUn (fIsA .bool) (wUse 0)))))
def φ__law_whole : FS := wDef N__law_whole w__law_whole
def N_check_order : List Str := ["order", "many", "kept", "known", "index", "item"]
def b_check_order_1 : WS :=
  (wSeq (wIfS (wOr (wNot (wTru (wCall φ_is_whole (waCons (wName 5) waNil) []))) (wOr (wNot (wTst (wChain (fBl fun i j => decide (i ≤ j)) (fBl fun i j => decide (i < j)) (wC (.int 0)) (wUse 5) (wUse 1)))) (wOr (wTst (wBin (fInA false) (wUse 5) (wUse 3))) (wAnd (wTst (wBin (fBl fun i j => decide (i < j)) (wUse 4) (wUse 2))) (wTst (wBin fNe (wUse 5) (wUse 4))))))) wNever wNext)
        (wPut 3 (wUse 5) (wC (.bl true))))
theorem ub_check_order_1 (W : WEnds) (Γ : Env') : b_check_order_1 W Γ = (wSeq (wIfS (wOr (wNot (wTru (wCall φ_is_whole (waCons (wName 5) waNil) []))) (wOr (wNot (wTst (wChain (fBl fun i j => decide (i ≤ j)) (fBl fun i j => decide (i < j)) (wC (.int 0)) (wUse 5) (wUse 1)))) (wOr (wTst (wBin (fInA false) (wUse 5) (wUse 3))) (wAnd (wTst (wBin (fBl fun i j => decide (i < j)) (wUse 4) (wUse 2))) (wTst (wBin fNe (wUse 5) (wUse 4))))))) wNever wNext)
        (wPut 3 (wUse 5) (wC (.bl true)))) W Γ := rfl
def w_check_order : WS :=
  (wSeq (wIfS (wTst (wBin fNe (wUn fLen (wUse 0)) (wUse 1))) wNever wNext)
      (wSeq (wAsg wD0 (gVar 3))
      (wFor (wiEn (wName 0)) (gTupD 2 (gsCons (gVar 4) (gsCons (gVar 5) gsNil))) b_check_order_1)))
def φ_check_order : FS := wDef N_check_order w_check_order
def N_renamed_symbols : List Str := ["symbols", "order", "symbol"]
def e_renamed_symbols_1 : WE :=
  (wIf (wTru (wCall φ_is_variable (waCons (wName 2) waNil) [])) (wBin fIxA (wUse 1) (wUse 2)) (wName 2))
theorem ue_renamed_symbols_1 (Γ : Env') (R : OT → Env' → Prop) : e_renamed_symbols_1 Γ R = (wIf (wTru (wCall φ_is_variable (waCons (wName 2) waNil) [])) (wBin fIxA (wUse 1) (wUse 2)) (wName 2)) Γ R := rfl
def w_renamed_symbols : WS :=
  (wRet (wUn fTupOf (wLc (([("symbol", 2)] : List (Str × Nat)).map (·.2)) (wiAny (wName 0)) (gVar 2) wYes e_renamed_symbols_1)))
def φ_renamed_symbols : FS := wDef N_renamed_symbols w_renamed_symbols
def N_renamed : List Str := ["grammar", "order", "rules", "left", "right"]
def b_renamed_1 : WS :=
  (wApp 2 (wTup (waCons (wCall φ_renamed_symbols (waCons (wName 3) (waCons (wName 1) waNil)) []) (waCons (wCall φ_renamed_symbols (waCons (wName 4) (waCons (wName 1) waNil)) []) waNil))))
theorem ub_renamed_1 (W : WEnds) (Γ : Env') : b_renamed_1 W Γ = (wApp 2 (wTup (waCons (wCall φ_renamed_symbols (waCons (wName 3) (waCons (wName 1) waNil)) []) (waCons (wCall φ_renamed_symbols (waCons (wName 4) (waCons (wName 1) waNil)) []) waNil)))) W Γ := rfl
def w_renamed : WS :=
  (wSeq (wDrop (wCall φ_check_order (waCons (wName 1) (waCons (wFld ["Grammar"] (wUse 0) "variables") (waCons (wC (.int 1)) waNil))) []))
      (wSeq (wAsg (wLst waNil) (gVar 2))
      (wSeq (wFor (wiAny (wFld ["Grammar"] (wUse 0) "rules")) (gTupD 2 (gsCons (gVar 3) (gsCons (gVar 4) gsNil))) b_renamed_1)
      (wRet (wMake "Grammar" φ_Grammar_init (waCons (wFld ["Grammar"] (wUse 0) "alphabet") (waCons (wFld ["Grammar"] (wUse 0) "variables") (waCons (wName 2) waNil))))))))
def φ_renamed : FS := wDef N_renamed w_renamed
def N_law : List Str := ["script", "drawn", "row", "rules", "text", "grammar", "pairs", "due", "told", "order", "empties", "more", "wider", "k", "rule"]
def e_law_1 : WE :=
  (wBin fSub (wBin fIxA (wUse 1) (wC (.int 1))) (wUse 13))
theorem ue_law_1 (Γ : Env') (R : OT → Env' → Prop) : e_law_1 Γ R = (wBin fSub (wBin fIxA (wUse 1) (wC (.int 1))) (wUse 13)) Γ R := rfl
def e_law_2 : WE :=
  (wName 14)
theorem ue_law_2 (Γ : Env') (R : OT → Env' → Prop) : e_law_2 Γ R = (wName 14) Γ R := rfl
def t_law_3 : WT :=
  (wTst (wBin fEq (wUse 14) (wTup (waCons (wTup (waCons (wC (.int 0)) waNil)) (waCons (wTup waNil) waNil)))))
theorem ut_law_3 (Γ : Env') (R : Bool → Env' → Prop) : t_law_3 Γ R = (wTst (wBin fEq (wUse 14) (wTup (waCons (wTup (waCons (wC (.int 0)) waNil)) (waCons (wTup waNil) waNil))))) Γ R := rfl
def w_law : WS :=
  (wSeq (wAsg (wCall φ__law_three (waCons (wCall φ__law_digits (waCons (wCall φ__law_cell (waCons (wName 0) (waCons (wC (.int 0)) waNil)) []) (waCons (wBin fAddA (wLst (waCons (wC (.int 3)) (waCons (wC (.int 3)) (waCons (wC (.int 4)) waNil)))) (wBin fMulA (wLst (waCons (wC (.int 7)) (waCons (wC (.int 6)) (waCons (wC (.int 6)) (waCons (wC (.int 6)) (waCons (wC (.int 5)) waNil)))))) (wC (.int 4)))) waNil)) []) waNil) []) (gVar 1))
      (wSeq (wAsg (wCall φ__law_digits (waCons (wCall φ__law_cell (waCons (wName 0) (waCons (wC (.int 1)) waNil)) []) (waCons (wBin fAddA (wBin fMulA (wLst (waCons (wC (.int 9)) waNil)) (wC (.int 11))) (wLst (waCons (wC (.int 2)) (waCons (wC (.int 9)) (waCons (wC (.int 10)) waNil))))) waNil)) []) (gVar 2))
      (wSeq (wAsg (wUn fLstOf (wBin fIxA (wUse 1) (wC (.int 2)))) (gVar 3))
      (wSeq (wIfS (wTst (wBin fEq (wBin fIxA (wUse 2) (wC (.int 11))) (wC (.int 1)))) (wApp 3 (wBin fIxA (wUse 3) (wBin fMod (wUn fInt (wBin fIxA (wUse 2) (wC (.int 12)))) (wUn fLen (wUse 3))))) wNext)
      (wSeq (wAsg (wCall φ__law_text_by (waCons (wLst (waCons (wBin fIxA (wUse 1) (wC (.int 0))) (waCons (wBin fIxA (wUse 1) (wC (.int 1))) (waCons (wName 3) waNil)))) (waCons (wName 2) waNil)) []) (gVar 4))
      (wSeq (wIfS (wTst (wBin fEq (wBin fMod (wUn fInt (wCall φ__law_cell (waCons (wName 0) (waCons (wC (.int 2)) waNil)) [])) (wC (.int 3))) (wC (.int 1)))) (wAsg (wCall φ__law_text (waCons (wBin fIxA (wUse 1) (wC (.int 0))) (waCons (wName 2) (waCons (wBin fAddA (wC (.int 1)) (wBin fMod (wUn fInt (wBin fIxA (wUse 2) (wC (.int 9)))) (wC (.int 3)))) waNil))) []) (gVar 4)) wNext)
      (wSeq (wAsg (wMake "Grammar" φ_Grammar_init (waCons (wBin fIxA (wUse 1) (wC (.int 0))) (waCons (wBin fIxA (wUse 1) (wC (.int 1))) (waCons (wName 3) waNil)))) (gVar 5))
      (wSeq (wAsg (wUn fInt (wBin fIxA (wUse 2) (wC (.int 13)))) (gVar 6))
      (wSeq (wAsg (wCall φ__law_counted_rows (waCons (wName 3) (waCons (wName 4) (waCons (wName 6) waNil))) []) (gVar 7))
      (wSeq (wAsg (wCall φ_count_derivations (waCons (wName 5) (waCons (wName 4) (waCons (wName 6) waNil))) [(.int 20000)]) (gVar 8))
      (wSeq (wIfS (wOr (wNot (wTru (wCall φ__law_whole (waCons (wName 8) waNil) []))) (wOr (wTst (wBin fNe (wUse 8) (wUse 7))) (wTst (wBin (fBl fun i j => decide (i < j)) (wCall φ_count_derivations (waCons (wName 5) (waCons (wName 4) (waCons (wBin fAddA (wUse 6) (wC (.int 1))) waNil))) [(.int 20000)]) (wUse 7))))) (wRet (wC (.bl false))) wNext)
      (wSeq (wAsg (wBin fAddA (wLst (waCons (wC (.int 0)) waNil)) (wLc (([("k", 13)] : List (Str × Nat)).map (·.2)) (wiRange2 (wC (.int 1)) (wBin fIxA (wUse 1) (wC (.int 1)))) (gVar 13) wYes e_law_1)) (gVar 9))
      (wSeq (wIfS (wTst (wBin fNe (wCall φ_count_derivations (waCons (wCall φ_renamed (waCons (wName 5) (waCons (wName 9) waNil)) []) (waCons (wName 4) (waCons (wName 6) waNil))) [(.int 20000)]) (wUse 7))) (wRet (wC (.bl false))) wNext)
      (wSeq (wAsg (wUn fLen (wLc (([("rule", 14)] : List (Str × Nat)).map (·.2)) (wiAny (wName 3)) (gVar 14) t_law_3 e_law_2)) (gVar 10))
      (wSeq (wIfS (wOr (wTst (wBin fNe (wCall φ_count_derivations (waCons (wName 5) (waCons (wC (.str "")) (waCons (wBin fAddA (wC (.int 1)) (wUse 6)) waNil))) [(.int 20000)]) (wUse 10))) (wTst (wBin fNe (wCall φ_count_derivations (waCons (wName 5) (waCons (wC (.str "")) (waCons (wC (.int 0)) waNil))) [(.int 20000)]) (wC (.int 0))))) (wRet (wC (.bl false))) wNext)
      (wSeq (wIfS (wTst (wBin fNe (wCall φ_count_derivations (waCons (wName 5) (waCons (wName 4) (waCons (wC (.int 0)) waNil))) [(.int 20000)]) (wC (.int 0)))) (wRet (wC (.bl false))) wNext)
      (wSeq (wIfS (wTst (wBin (fBl fun i j => decide (j < i)) (wUn fLen (wUse 4)) (wC (.int 1)))) (wSeq (wAsg (wMake "Grammar" φ_Grammar_init (waCons (wBin fIxA (wUse 1) (wC (.int 0))) (waCons (wBin fIxA (wUse 1) (wC (.int 1))) (waCons (wBin fAddA (wUse 3) (wLst (waCons (wTup (waCons (wTup (waCons (wC (.int 0)) waNil)) (waCons (wTup (waCons (wBin fIxA (wUse 4) (wC (.int 0))) waNil)) waNil))) waNil))) waNil)))) (gVar 11))
        (wSeq (wAsg (wCall φ__law_counted_rows (waCons (wBin fAddA (wUse 3) (wLst (waCons (wTup (waCons (wTup (waCons (wC (.int 0)) waNil)) (waCons (wTup (waCons (wBin fIxA (wUse 4) (wC (.int 0))) waNil)) waNil))) waNil))) (waCons (wName 4) (waCons (wName 6) waNil))) []) (gVar 12))
        (wRet (wAndV (wBin fEq (wCall φ_count_derivations (waCons (wName 11) (waCons (wName 4) (waCons (wName 6) waNil))) [(.int 20000)]) (wUse 12)) (wBin fGeA (wUse 12) (wUse 7)))))) wNext)
      (wRet (wC (.bl true))))))))))))))))))))
def φ_law : FS := wDef N_law w_law
end EW

set_option maxHeartbeats 4000000
namespace EW
open PySem PySem.Spec L2 EV HeadT
/-! what the top says -/
structure Gs (K : PySem.W.Frag) (mg : Str → Option Value) : Prop where
  b_bool : mg "bool" = none
  b_enumerate : mg "enumerate" = none
  b_int : mg "int" = none
  b_isinstance : mg "isinstance" = none
  b_len : mg "len" = none
  b_list : mg "list" = none
  b_max : mg "max" = none
  b_range : mg "range" = none
  b_str : mg "str" = none
  b_tuple : mg "tuple" = none
  c_LETTERS : ∃ u, mg "LETTERS" = some u ∧ RelV (.str "abcdefghijklmnopqrstuvwxyz") u
  c_START_FORM : ∃ u, mg "START_FORM" = some u ∧ RelV (.ref (He.ga K "START_FORM")) u
  s_START_FORM : StaticT K (He.ga K "START_FORM") [.int 0]
  F_alphabet : ∀ c ∈ (["Grammar"] : List Str), FldOk K c "alphabet"
  F_variables : ∀ c ∈ (["Grammar"] : List Str), FldOk K c "variables"
  F_rules : ∀ c ∈ (["Grammar"] : List Str), FldOk K c "rules"
  m_Grammar : Mk K (He.ga K "Grammar") (He.ma K (He.ga K "Grammar") "__init__")
  g_Grammar : mg "Grammar" = some (.ref (He.ga K "Grammar"))
/-! the walks -/
section
variable {P : Program} {w : World} {K : PySem.W.Frag} {mg : Str → Option Value} {base : Heap}
theorem xs__law_three (G : Gs K mg) (f : Addr) (cdv : Value) (A : Around) (outer : List Env) (s : Shared) (H : Hp) (E : XK) (hr : Room 0 (A.deeper (PyProof.Rows.envOfC "_law_three" (defScope s34) s.heap.objs.size f cdv))) :
    XSs (cxOf CX0 P w K mg base N__law_three "_law_three" (defScope s34) f cdv A outer s H E) (defBody s34) w__law_three := by
  have hu64 := hr.units
  have hu65 : (A.deeper (PyProof.Rows.envOfC "_law_three" (defScope s34) s.heap.objs.size f cdv)).units + 65 < cLine := by have := hr.un; omega
  have hu1 : (A.deeper (PyProof.Rows.envOfC "_law_three" (defScope s34) s.heap.objs.size f cdv)).units + 1 < cLine := by omega
  have hN : N__law_three.Nodup := by decide +kernel
  exact XSs.cons (gSet 1 hN rfl (.inl rfl) (.inl rfl) (XE.ix hu1 (XE.use (XE.lst (XAn.xa (XAn.cons (gStr) (XAn.cons (gStr) (XAn.cons (gStr) (XAn.nil))))))) (XE.use (XE.ix hu1 (gU 0 rfl (.inl rfl)) (XE.use (gInt)) (fun _ _ => rfl))) (fun _ _ => rfl)))
      (XSs.cons (gSet 2 hN rfl (.inl rfl) (.inl rfl) (XE.ix hu1 (XE.use (XE.lst (XAn.xa (XAn.cons (gInt) (XAn.cons (gInt) (XAn.cons (gInt) (XAn.nil))))))) (XE.use (XE.ix hu1 (gU 0 rfl (.inl rfl)) (XE.use (gInt)) (fun _ _ => rfl))) (fun _ _ => rfl)))
      (XSs.cons (gSet 3 hN rfl (.inl rfl) (.inl rfl) (XE.ix hu1 (gU 1 rfl (.inl rfl)) (XE.use (gInt)) (fun _ _ => rfl)))
      (XSs.cons (gSet 4 hN rfl (.inl rfl) (.inl rfl) (XE.ix hu1 (gU 1 rfl (.inl rfl)) (XE.use (XE.sub (XE.use (gLen rfl G.b_len (gU 1 rfl (.inl rfl)))) (XE.use (gInt)))) (fun _ _ => rfl)))
      (XSs.cons (gSet 5 hN rfl (.inl rfl) (.inl rfl) (XE.lst (XAn.xa (XAn.cons (XE.tup (XAn.xa (XAn.cons (XE.tup (XAn.xa (XAn.cons (gInt) (XAn.nil)))) (XAn.cons (XE.tup (XAn.xa (XAn.cons (gE 3 rfl (.inl rfl)) (XAn.cons (gInt) (XAn.nil))))) (XAn.nil))))) (XAn.cons (XE.tup (XAn.xa (XAn.cons (XE.tup (XAn.xa (XAn.cons (gInt) (XAn.nil)))) (XAn.cons (XE.tup (XAn.xa (XAn.cons (gE 4 rfl (.inl rfl)) (XAn.nil)))) (XAn.nil))))) (XAn.nil))))))
      (XSs.cons (XS.ifs (XT.cmp (cEq hu64) (XE.use (XE.ix hu1 (gU 0 rfl (.inl rfl)) (XE.use (gInt)) (fun _ _ => rfl))) (XE.use (gInt)) (nomark _)) (XSs.one (gSet 5 hN rfl (.inl rfl) (.inl rfl) (XE.lst (XAn.xa (XAn.cons (XE.tup (XAn.xa (XAn.cons (XE.tup (XAn.xa (XAn.cons (gInt) (XAn.nil)))) (XAn.cons (XE.tup (XAn.xa (XAn.cons (gInt) (XAn.cons (gInt) (XAn.nil))))) (XAn.nil))))) (XAn.cons (XE.tup (XAn.xa (XAn.cons (XE.tup (XAn.xa (XAn.cons (gInt) (XAn.nil)))) (XAn.cons (XE.tup (XAn.xa (XAn.cons (gE 3 rfl (.inl rfl)) (XAn.nil)))) (XAn.nil))))) (XAn.cons (XE.tup (XAn.xa (XAn.cons (XE.tup (XAn.xa (XAn.cons (gInt) (XAn.nil)))) (XAn.cons (XE.tup (XAn.xa (XAn.cons (gE 4 rfl (.inl rfl)) (XAn.nil)))) (XAn.nil))))) (XAn.nil)))))))) (XSs.nil))
      (XSs.cons (XS.ifs (XT.cmp (cEq hu64) (XE.use (XE.ix hu1 (gU 0 rfl (.inl rfl)) (XE.use (gInt)) (fun _ _ => rfl))) (XE.use (gInt)) (nomark _)) (XSs.one (gSet 5 hN rfl (.inl rfl) (.inl rfl) (XE.lst (XAn.xa (XAn.cons (XE.tup (XAn.xa (XAn.cons (XE.tup (XAn.xa (XAn.cons (gInt) (XAn.nil)))) (XAn.cons (XE.tup (XAn.xa (XAn.cons (gInt) (XAn.cons (gInt) (XAn.nil))))) (XAn.nil))))) (XAn.cons (XE.tup (XAn.xa (XAn.cons (XE.tup (XAn.xa (XAn.cons (gInt) (XAn.nil)))) (XAn.cons (XE.tup (XAn.xa (XAn.cons (gE 3 rfl (.inl rfl)) (XAn.nil)))) (XAn.nil))))) (XAn.nil))))))) (XSs.nil))
      (XSs.cons (gSet 6 hN rfl (.inl rfl) (.inl rfl) (XE.lst (XAn.xa (XAn.cons (gE 3 rfl (.inl rfl)) (XAn.cons (gE 4 rfl (.inl rfl)) (XAn.cons (gInt) (XAn.cons (gInt) (XAn.cons (XE.sub (gU 2 rfl (.inl rfl)) (XE.use (gInt))) (XAn.cons (gInt) (XAn.nil))))))))))
      (XSs.cons (XS.fors (passes_of rfl) rfl (XI.range1 rfl G.b_range (XE.use (gInt))) (gTV 7 hN rfl (.inl rfl) (.inl rfl)) (XSs.cons (gSet 8 hN rfl (.inl rfl) (.inl rfl) (XE.slice (gU 0 rfl (.inl rfl)) (XO.some (XE.use (XE.addA (XE.use (gInt)) (XE.use (XE.mulA (XE.use (gInt)) (gU 7 rfl (.inl rfl))))))) (XO.some (XE.use (XE.addA (XE.use (gInt)) (XE.use (XE.mulA (XE.use (gInt)) (gU 7 rfl (.inl rfl)))))))))
        (XSs.cons (gSet 9 hN rfl (.inl rfl) (.inl rfl) (XE.lst (XAn.xa (XAn.cons (XE.tup (XAn.xa (XAn.cons (gInt) (XAn.nil)))) (XAn.cons (XE.tup (XAn.xa (XAn.cons (gInt) (XAn.nil)))) (XAn.cons (XE.tup (XAn.xa (XAn.cons (gInt) (XAn.cons (gE 3 rfl (.inl rfl)) (XAn.nil))))) (XAn.cons (XE.tup (XAn.xa (XAn.cons (gE 3 rfl (.inl rfl)) (XAn.cons (gInt) (XAn.nil))))) (XAn.cons (XE.tup (XAn.xa (XAn.cons (gInt) (XAn.cons (gInt) (XAn.nil))))) (XAn.cons (XE.tup (XAn.xa (XAn.cons (gInt) (XAn.cons (gInt) (XAn.nil))))) (XAn.cons (XE.tup (XAn.xa (XAn.cons (gE 4 rfl (.inl rfl)) (XAn.cons (gInt) (XAn.nil))))) (XAn.nil)))))))))))
        (XSs.cons (gSet 10 hN rfl (.inl rfl) (.inl rfl) (XE.ix hu1 (gU 9 rfl (.inl rfl)) (XE.use (XE.ix hu1 (gU 8 rfl (.inl rfl)) (XE.use (gInt)) (fun _ _ => rfl))) (fun _ _ => rfl)))
        (XSs.cons (gSet 11 hN rfl (.inl rfl) (.inl rfl) (XE.tup (XAn.xa (XAn.cons (XE.ix hu1 (gU 6 rfl (.inl rfl)) (XE.use (XE.ix hu1 (gU 8 rfl (.inl rfl)) (XE.use (gInt)) (fun _ _ => rfl))) (fun _ _ => rfl)) (XAn.cons (XE.ix hu1 (gU 6 rfl (.inl rfl)) (XE.use (XE.ix hu1 (gU 8 rfl (.inl rfl)) (XE.use (gInt)) (fun _ _ => rfl))) (fun _ _ => rfl)) (XAn.cons (XE.ix hu1 (gU 6 rfl (.inl rfl)) (XE.use (XE.ix hu1 (gU 8 rfl (.inl rfl)) (XE.use (gInt)) (fun _ _ => rfl))) (fun _ _ => rfl)) (XAn.nil)))))))
        (XSs.cons (gSet 11 hN rfl (.inl rfl) (.inl rfl) (XE.slice (gU 11 rfl (.inl rfl)) (XO.none) (XO.some (XE.use (gMax rfl rfl G.b_max (XE.use (gLen rfl G.b_len (gU 10 rfl (.inl rfl)))) (XE.use (XE.ix hu1 (XE.use (XE.lst (XAn.xa (XAn.cons (gInt) (XAn.cons (gInt) (XAn.cons (gInt) (XAn.cons (gInt) (XAn.cons (gInt) (XAn.nil))))))))) (XE.use (XE.ix hu1 (gU 8 rfl (.inl rfl)) (XE.use (gInt)) (fun _ _ => rfl))) (fun _ _ => rfl))))))))
        (XSs.one (gApp (i := 5) rfl (.inl rfl) (XE.tup (XAn.xa (XAn.cons (gE 10 rfl (.inl rfl)) (XAn.cons (gE 11 rfl (.inl rfl)) (XAn.nil)))))))))))) (fun _ => rfl))
      (XSs.cons (XS.ifs (XW.xt (XW.and (XT.cmp (cEq hu64) (XE.use (XE.ix hu1 (gU 0 rfl (.inl rfl)) (XE.use (gInt)) (fun _ _ => rfl))) (XE.use (gInt)) (nomark _)) (XW.and1 (XT.cmp (cEq hu64) (XE.use (XE.ix hu1 (gU 0 rfl (.inl rfl)) (XE.use (gInt)) (fun _ _ => rfl))) (XE.use (gInt)) (nomark _))))) (XSs.one (gSet 5 hN rfl (.inl rfl) (.inl rfl) (XE.addA (XE.use (XE.lst (XAn.xa (XAn.cons (XE.tup (XAn.xa (XAn.cons (XE.tup (XAn.xa (XAn.cons (gInt) (XAn.nil)))) (XAn.cons (XE.tup (XAn.xa (XAn.cons (gInt) (XAn.nil)))) (XAn.nil))))) (XAn.cons (XE.tup (XAn.xa (XAn.cons (XE.tup (XAn.xa (XAn.cons (gInt) (XAn.nil)))) (XAn.cons (XE.tup (XAn.xa (XAn.nil))) (XAn.nil))))) (XAn.nil)))))) (XE.use (gLc hN rfl (own := [("rule", 12)]) (XI.any (gE 5 rfl (.inl rfl))) (blkOk (by kernel_rfl)) (by decide) (fun _ _ _ _ _ => gTV 12 hN rfl (.inl (by kernel_rfl)) (.inr (by kernel_rfl))) (fun _ _ _ _ _ => XTs.one (XW.xt (XW.and (XT.cmp (cNotInA hu65) (XE.use (gInt)) (XE.use (XE.ix hu1 (gU 12 rfl (.inl (by kernel_rfl))) (XE.use (gInt)) (fun _ _ => rfl))) (by with_unfolding_all rfl)) (XW.and1 (XT.cmp (cNe hu64) (XE.use (XE.ix hu1 (gU 12 rfl (.inl (by kernel_rfl))) (XE.use (gInt)) (fun _ _ => rfl))) (XE.use (XE.tup (XAn.xa (XAn.cons (gInt) (XAn.cons (gInt) (XAn.nil)))))) (nomark _)))))) (fun _ _ _ _ _ => gE 12 rfl (.inl (by kernel_rfl)))))))) (XSs.nil))
      (XSs.one (XS.ret (XE.lst (XAn.xa (XAn.cons (gE 1 rfl (.inl rfl)) (XAn.cons (gE 2 rfl (.inl rfl)) (XAn.cons (gE 5 rfl (.inl rfl)) (XAn.nil)))))))))))))))))
theorem sc__law_three : FnScope N__law_three ["row"] (defScope s34) := ⟨rfl, rfl, rfl, by decide +kernel, rfl, by decide +kernel, by decide +kernel⟩
theorem fn__law_three (G : Gs K mg) {f : Addr} {fd : FuncData} (F : FunD K "_law_three" "_law_three" (defArgs s34) (defBody s34) (defScope s34) [] [] f fd) (hg : mg "_law_three" = some (.ref f)) : FnD P w K mg base "_law_three" 1 1 [] φ__law_three :=
  FnD.pos F sc__law_three rfl hg (fun _ _ _ _ _ _ us hl => match us, hl with | [_], _ => rfl) (fun cdv A outer s H E hr => xs__law_three G  _ cdv A outer s H E hr)
theorem xs__law_digits (G : Gs K mg) (f : Addr) (cdv : Value) (A : Around) (outer : List Env) (s : Shared) (H : Hp) (E : XK) (hr : Room 0 (A.deeper (PyProof.Rows.envOfC "_law_digits" (defScope s31) s.heap.objs.size f cdv))) :
    XSs (cxOf CX0 P w K mg base N__law_digits "_law_digits" (defScope s31) f cdv A outer s H E) (defBody s31) w__law_digits := by
  have hu64 := hr.units
  have hu65 : (A.deeper (PyProof.Rows.envOfC "_law_digits" (defScope s31) s.heap.objs.size f cdv)).units + 65 < cLine := by have := hr.un; omega
  have hu1 : (A.deeper (PyProof.Rows.envOfC "_law_digits" (defScope s31) s.heap.objs.size f cdv)).units + 1 < cLine := by omega
  have hN : N__law_digits.Nodup := by decide +kernel
  exact XSs.cons (gSet 2 hN rfl (.inl rfl) (.inl rfl) (XE.lst (XAn.xa (XAn.nil))))
      (XSs.cons (gSet 3 hN rfl (.inl rfl) (.inl rfl) (gCInt rfl G.b_int (gU 0 rfl (.inl rfl))))
      (XSs.cons (XS.ifs (XT.cmp cGeA (gU 3 rfl (.inl rfl)) (XE.use (XE.pow (XE.use (gInt)) (XE.use (gInt)))) (nomark _)) (XSs.cons (gSet 3 hN rfl (.inl rfl) (.inl rfl) (XE.mod (XE.use (gCInt rfl G.b_int (XE.use (XE.sub (gU 3 rfl (.inl rfl)) (XE.use (XE.pow (XE.use (gInt)) (XE.use (gInt)))))))) (XE.use (XE.pow (XE.use (gInt)) (XE.use (gInt))))))
        (XSs.cons (XS.fors (passes_of rfl) rfl (XI.any (gE 1 rfl (.inl rfl))) (gTV 6 hN rfl (.inl rfl) (.inl rfl)) (XSs.cons (gApp (i := 2) rfl (.inl rfl) (XE.mod (XE.use (gCInt rfl G.b_int (gU 3 rfl (.inl rfl)))) (gU 6 rfl (.inl rfl))))
          (XSs.one (gSet 3 hN rfl (.inl rfl) (.inl rfl) (XE.fdiv (XE.use (gCInt rfl G.b_int (gU 3 rfl (.inl rfl)))) (gU 6 rfl (.inl rfl)))))) (fun _ => rfl))
        (XSs.one (XS.retN (pe_var rfl (.inl rfl)))))) (XSs.nil))
      (XSs.cons (gSet 4 hN rfl (.inl rfl) (.inl rfl) (XE.mod (XE.use (gCInt rfl G.b_int (gU 3 rfl (.inl rfl)))) (XE.use (gInt))))
      (XSs.cons (XS.fors (passes_of rfl) rfl (XI.range1 rfl G.b_range (XE.use (gLen rfl G.b_len (gU 1 rfl (.inl rfl))))) (gTV 5 hN rfl (.inl rfl) (.inl rfl)) (XSs.cons (gSet 4 hN rfl (.inl rfl) (.inl rfl) (XE.mod (XE.use (gCInt rfl G.b_int (XE.use (XE.addA (XE.use (XE.addA (XE.use (XE.mulA (gU 4 rfl (.inl rfl)) (XE.use (gInt)))) (XE.use (XE.mulA (XE.use (gInt)) (gU 5 rfl (.inl rfl)))))) (XE.use (gInt)))))) (XE.use (gInt))))
        (XSs.cons (gSet 7 hN rfl (.inl rfl) (.inl rfl) (XE.mod (XE.use (gCInt rfl G.b_int (XE.use (XE.mulA (gU 4 rfl (.inl rfl)) (XE.use (XE.addA (XE.use (XE.fdiv (gU 4 rfl (.inl rfl)) (XE.use (gInt)))) (XE.use (gInt)))))))) (XE.use (gInt))))
        (XSs.one (gApp (i := 2) rfl (.inl rfl) (XE.mod (XE.use (XE.fdiv (gU 7 rfl (.inl rfl)) (XE.use (gInt)))) (XE.use (XE.ix hu1 (gU 1 rfl (.inl rfl)) (gU 5 rfl (.inl rfl)) (fun _ _ => rfl)))))))) (fun _ => rfl))
      (XSs.one (XS.retN (pe_var rfl (.inl rfl))))))))
theorem sc__law_digits : FnScope N__law_digits ["cell", "sizes"] (defScope s31) := ⟨rfl, rfl, rfl, by decide +kernel, rfl, by decide +kernel, by decide +kernel⟩
theorem fn__law_digits (G : Gs K mg) {f : Addr} {fd : FuncData} (F : FunD K "_law_digits" "_law_digits" (defArgs s31) (defBody s31) (defScope s31) [] [] f fd) (hg : mg "_law_digits" = some (.ref f)) : FnD P w K mg base "_law_digits" 1 2 [] φ__law_digits :=
  FnD.pos F sc__law_digits rfl hg (fun _ _ _ _ _ _ us hl => match us, hl with | [_, _], _ => rfl) (fun cdv A outer s H E hr => xs__law_digits G  _ cdv A outer s H E hr)
theorem xs__law_text (G : Gs K mg) (f : Addr) (cdv : Value) (A : Around) (outer : List Env) (s : Shared) (H : Hp) (E : XK) (hr : Room 0 (A.deeper (PyProof.Rows.envOfC "_law_text" (defScope s32) s.heap.objs.size f cdv))) :
    XSs (cxOf CX0 P w K mg base N__law_text "_law_text" (defScope s32) f cdv A outer s H E) (defBody s32) w__law_text := by
  have hu64 := hr.units
  have hu65 : (A.deeper (PyProof.Rows.envOfC "_law_text" (defScope s32) s.heap.objs.size f cdv)).units + 65 < cLine := by have := hr.un; omega
  have hu1 : (A.deeper (PyProof.Rows.envOfC "_law_text" (defScope s32) s.heap.objs.size f cdv)).units + 1 < cLine := by omega
  have hN : N__law_text.Nodup := by decide +kernel
  exact XSs.one (XS.ret (XE.join (XE.use (gStr)) (XE.use (gLc hN rfl (own := [("k", 3)]) (XI.range1 rfl G.b_range (gU 2 rfl (.inl rfl))) (blkOk (by kernel_rfl)) (by decide) (fun _ _ _ _ _ => gTV 3 hN rfl (.inl (by kernel_rfl)) (.inr (by kernel_rfl))) (fun _ _ _ _ _ => XTs.nil) (fun _ _ _ _ _ => XE.ix hu1 (gU 0 rfl (.inr (.inl (by kernel_rfl)))) (XE.use (XE.mod (XE.use (gCInt rfl G.b_int (XE.use (XE.ix hu1 (gU 1 rfl (.inr (.inl (by kernel_rfl)))) (gU 3 rfl (.inl (by kernel_rfl))) (fun _ _ => rfl))))) (XE.use (gLen rfl G.b_len (gU 0 rfl (.inr (.inl (by kernel_rfl)))))))) (fun _ _ => rfl))))))
theorem sc__law_text : FnScope N__law_text ["alphabet", "row", "size"] (defScope s32) := ⟨rfl, rfl, rfl, by decide +kernel, rfl, by decide +kernel, by decide +kernel⟩
theorem fn__law_text (G : Gs K mg) {f : Addr} {fd : FuncData} (F : FunD K "_law_text" "_law_text" (defArgs s32) (defBody s32) (defScope s32) [] [] f fd) (hg : mg "_law_text" = some (.ref f)) : FnD P w K mg base "_law_text" 1 3 [] φ__law_text :=
  FnD.pos F sc__law_text rfl hg (fun _ _ _ _ _ _ us hl => match us, hl with | [_, _, _], _ => rfl) (fun cdv A outer s H E hr => xs__law_text G  _ cdv A outer s H E hr)
theorem xs__law_rewrite (G : Gs K mg) (f : Addr) (cdv : Value) (A : Around) (outer : List Env) (s : Shared) (H : Hp) (E : XK) (hr : Room 0 (A.deeper (PyProof.Rows.envOfC "_law_rewrite" (defScope s33) s.heap.objs.size f cdv))) :
    XSs (cxOf CX0 P w K mg base N__law_rewrite "_law_rewrite" (defScope s33) f cdv A outer s H E) (defBody s33) w__law_rewrite := by
  have hu64 := hr.units
  have hu65 : (A.deeper (PyProof.Rows.envOfC "_law_rewrite" (defScope s33) s.heap.objs.size f cdv)).units + 65 < cLine := by have := hr.un; omega
  have hu1 : (A.deeper (PyProof.Rows.envOfC "_law_rewrite" (defScope s33) s.heap.objs.size f cdv)).units + 1 < cLine := by omega
  have hN : N__law_rewrite.Nodup := by decide +kernel
  exact XSs.cons (XS.ifs (XW.xt (XW.or (XT.cmp cLt (gU 2 rfl (.inl rfl)) (XE.use (gInt)) (nomark _)) (XW.or (XT.cmp cGeA (gU 2 rfl (.inl rfl)) (XE.use (gLen rfl G.b_len (gU 0 rfl (.inl rfl)))) (nomark _)) (XW.or1 (XT.cmp cLt (gU 3 rfl (.inl rfl)) (XE.use (gInt)) (nomark _)))))) (XSs.one (XS.ret (gNon))) (XSs.nil))
      (XSs.cons (gSet 4 hN rfl (.inl rfl) (.inl rfl) (XE.ix hu1 (gU 0 rfl (.inl rfl)) (gU 2 rfl (.inl rfl)) (fun _ _ => rfl)))
      (XSs.cons (XS.ifs (XT.cmp (cNe hu64) (XE.use (gTuple rfl G.b_tuple (XE.use (XE.slice (gU 1 rfl (.inl rfl)) (XO.some (gU 3 rfl (.inl rfl))) (XO.some (XE.use (XE.addA (gU 3 rfl (.inl rfl)) (XE.use (gLen rfl G.b_len (XE.use (XE.ix hu1 (gU 4 rfl (.inl rfl)) (XE.use (gInt)) (fun _ _ => rfl)))))))))))) (XE.use (gTuple rfl G.b_tuple (XE.use (XE.ix hu1 (gU 4 rfl (.inl rfl)) (XE.use (gInt)) (fun _ _ => rfl))))) (nomark _)) (XSs.one (XS.ret (gNon))) (XSs.nil))
      (XSs.one (XS.ret (XE.addA (XE.use (XE.addA (XE.use (gTuple rfl G.b_tuple (XE.use (XE.slice (gU 1 rfl (.inl rfl)) (XO.none) (XO.some (gU 3 rfl (.inl rfl))))))) (XE.use (gTuple rfl G.b_tuple (XE.use (XE.ix hu1 (gU 4 rfl (.inl rfl)) (XE.use (gInt)) (fun _ _ => rfl))))))) (XE.use (gTuple rfl G.b_tuple (XE.use (XE.slice (gU 1 rfl (.inl rfl)) (XO.some (XE.use (XE.addA (gU 3 rfl (.inl rfl)) (XE.use (gLen rfl G.b_len (XE.use (XE.ix hu1 (gU 4 rfl (.inl rfl)) (XE.use (gInt)) (fun _ _ => rfl)))))))) (XO.none))))))))))
theorem sc__law_rewrite : FnScope N__law_rewrite ["rules", "form", "number", "place"] (defScope s33) := ⟨rfl, rfl, rfl, by decide +kernel, rfl, by decide +kernel, by decide +kernel⟩
theorem fn__law_rewrite (G : Gs K mg) {f : Addr} {fd : FuncData} (F : FunD K "_law_rewrite" "_law_rewrite" (defArgs s33) (defBody s33) (defScope s33) [] [] f fd) (hg : mg "_law_rewrite" = some (.ref f)) : FnD P w K mg base "_law_rewrite" 1 4 [] φ__law_rewrite :=
  FnD.pos F sc__law_rewrite rfl hg (fun _ _ _ _ _ _ us hl => match us, hl with | [_, _, _, _], _ => rfl) (fun cdv A outer s H E hr => xs__law_rewrite G  _ cdv A outer s H E hr)
theorem xs__law_text_by (G : Gs K mg) (F__law_text : FnD P w K mg base "_law_text" 1 3 [] φ__law_text) (F__law_rewrite : FnD P w K mg base "_law_rewrite" 1 4 [] φ__law_rewrite) (f : Addr) (cdv : Value) (A : Around) (outer : List Env) (s : Shared) (H : Hp) (E : XK) (hr : Room 1 (A.deeper (PyProof.Rows.envOfC "_law_text_by" (defScope s37) s.heap.objs.size f cdv))) :
    XSs (cxOf CX0 P w K mg base N__law_text_by "_law_text_by" (defScope s37) f cdv A outer s H E) (defBody s37) w__law_text_by := by
  have hu64 := hr.units
  have hu65 : (A.deeper (PyProof.Rows.envOfC "_law_text_by" (defScope s37) s.heap.objs.size f cdv)).units + 65 < cLine := by have := hr.un; omega
  have hu1 : (A.deeper (PyProof.Rows.envOfC "_law_text_by" (defScope s37) s.heap.objs.size f cdv)).units + 1 < cLine := by omega
  have hN : N__law_text_by.Nodup := by decide +kernel
  exact XSs.cons (gSet 2 hN rfl (.inl rfl) (.inl rfl) (XE.tup (XAn.xa (XAn.cons (gInt) (XAn.nil)))))
      (XSs.cons (XS.fors (passes_of rfl) rfl (XI.range1 rfl G.b_range (XE.use (gInt))) (gTV 3 hN rfl (.inl rfl) (.inl rfl)) (XSs.cons (gSet 4 hN rfl (.inl rfl) (.inl rfl) (XE.lst (XAn.xa (XAn.nil))))
        (XSs.cons (XS.fors (passes_of rfl) rfl (XI.range1 rfl G.b_range (XE.use (gLen rfl G.b_len (XE.use (XE.ix hu1 (gU 0 rfl (.inl rfl)) (XE.use (gInt)) (fun _ _ => rfl)))))) (gTV 5 hN rfl (.inl rfl) (.inl rfl)) (XSs.one (XS.fors (passes_of rfl) rfl (XI.range1 rfl G.b_range (XE.use (gLen rfl G.b_len (gU 2 rfl (.inl rfl))))) (gTV 6 hN rfl (.inl rfl) (.inl rfl)) (XSs.cons (gSet 7 hN rfl (.inl rfl) (.inl rfl) (XE.call F__law_rewrite (hr.mono (by decide)) rfl (XAn.cons (XE.ix hu1 (gU 0 rfl (.inl rfl)) (XE.use (gInt)) (fun _ _ => rfl)) (XAn.cons (gE 2 rfl (.inl rfl)) (XAn.cons (gE 5 rfl (.inl rfl)) (XAn.cons (gE 6 rfl (.inl rfl)) (XAn.nil))))) rfl))
            (XSs.one (XS.ifs (XW.xt (XW.and (XT.cmp cIsNot (gU 7 rfl (.inl rfl)) (XE.use (gNon)) (nomark _)) (XW.and (XT.cmp cLt (XE.use (gInt)) (XE.use (gLen rfl G.b_len (gU 7 rfl (.inl rfl)))) (nomark _)) (XW.and1 (XT.cmp cLe (XE.use (gLen rfl G.b_len (gU 7 rfl (.inl rfl)))) (XE.use (gInt)) (nomark _)))))) (XSs.one (gApp (i := 4) rfl (.inl rfl) (gE 7 rfl (.inl rfl)))) (XSs.nil)))) (fun _ => rfl))) (fun _ => rfl))
        (XSs.cons (XS.ifs (XT.cmp (cEq hu64) (XE.use (gLen rfl G.b_len (gU 4 rfl (.inl rfl)))) (XE.use (gInt)) (nomark _)) (XSs.one (XS.brk)) (XSs.nil))
        (XSs.cons (gSet 2 hN rfl (.inl rfl) (.inl rfl) (XE.ix hu1 (gU 4 rfl (.inl rfl)) (XE.use (XE.mod (XE.use (gCInt rfl G.b_int (XE.use (XE.addA (XE.use (XE.mulA (XE.use (XE.ix hu1 (gU 1 rfl (.inl rfl)) (gU 3 rfl (.inl rfl)) (fun _ _ => rfl))) (XE.use (gInt)))) (XE.use (XE.ix hu1 (gU 1 rfl (.inl rfl)) (XE.use (XE.addA (gU 3 rfl (.inl rfl)) (XE.use (gInt)))) (fun _ _ => rfl))))))) (XE.use (gLen rfl G.b_len (gU 4 rfl (.inl rfl)))))) (fun _ _ => rfl)))
        (XSs.one (XS.ifs (XT.cmp (cEq hu64) (XE.use (gLen rfl G.b_len (XE.use (gLc hN rfl (own := [("symbol", 8)]) (XI.any (gE 2 rfl (.inl rfl))) (blkOk (by kernel_rfl)) (by decide) (fun _ _ _ _ _ => gTV 8 hN rfl (.inl (by kernel_rfl)) (.inr (by kernel_rfl))) (fun _ _ _ _ _ => XTs.one (XT.not (gT (XE.use (gIsA .str rfl rfl G.b_isinstance rfl G.b_str (gU 8 rfl (.inl (by kernel_rfl)))))))) (fun _ _ _ _ _ => gE 8 rfl (.inl (by kernel_rfl))))))) (XE.use (gInt)) (nomark _)) (XSs.one (XS.ret (XE.join (XE.use (gStr)) (XE.use (gLc hN rfl (own := [("letter", 9)]) (XI.any (gE 2 rfl (.inl rfl))) (blkOk (by kernel_rfl)) (by decide) (fun _ _ _ _ _ => gTV 9 hN rfl (.inl (by kernel_rfl)) (.inr (by kernel_rfl))) (fun _ _ _ _ _ => XTs.nil) (fun _ _ _ _ _ => gE 9 rfl (.inl (by kernel_rfl)))))))) (XSs.nil))))))) (fun _ => rfl))
      (XSs.one (XS.ret (XE.call F__law_text (hr.mono (by decide)) rfl (XAn.cons (XE.ix hu1 (gU 0 rfl (.inl rfl)) (XE.use (gInt)) (fun _ _ => rfl)) (XAn.cons (gE 1 rfl (.inl rfl)) (XAn.cons (XE.addA (XE.use (gInt)) (XE.use (XE.mod (XE.use (gCInt rfl G.b_int (XE.use (XE.ix hu1 (gU 1 rfl (.inl rfl)) (XE.use (gInt)) (fun _ _ => rfl))))) (XE.use (gInt))))) (XAn.nil)))) rfl))))
theorem sc__law_text_by : FnScope N__law_text_by ["drawn", "row"] (defScope s37) := ⟨rfl, rfl, rfl, by decide +kernel, rfl, by decide +kernel, by decide +kernel⟩
theorem fn__law_text_by (G : Gs K mg) (F__law_text : FnD P w K mg base "_law_text" 1 3 [] φ__law_text) (F__law_rewrite : FnD P w K mg base "_law_rewrite" 1 4 [] φ__law_rewrite) {f : Addr} {fd : FuncData} (F : FunD K "_law_text_by" "_law_text_by" (defArgs s37) (defBody s37) (defScope s37) [] [] f fd) (hg : mg "_law_text_by" = some (.ref f)) : FnD P w K mg base "_law_text_by" 2 2 [] φ__law_text_by :=
  FnD.pos F sc__law_text_by rfl hg (fun _ _ _ _ _ _ us hl => match us, hl with | [_, _], _ => rfl) (fun cdv A outer s H E hr => xs__law_text_by G F__law_text F__law_rewrite _ cdv A outer s H E hr)
theorem xs_is_alphabet (G : Gs K mg) (f : Addr) (cdv : Value) (A : Around) (outer : List Env) (s : Shared) (H : Hp) (E : XK) (hr : Room 0 (A.deeper (PyProof.Rows.envOfC "is_alphabet" (defScope s9) s.heap.objs.size f cdv))) :
    XSs (cxOf CX0 P w K mg base N_is_alphabet "is_alphabet" (defScope s9) f cdv A outer s H E) (defBody s9) w_is_alphabet := by
  have hu64 := hr.units
  have hu65 : (A.deeper (PyProof.Rows.envOfC "is_alphabet" (defScope s9) s.heap.objs.size f cdv)).units + 65 < cLine := by have := hr.un; omega
  have hu1 : (A.deeper (PyProof.Rows.envOfC "is_alphabet" (defScope s9) s.heap.objs.size f cdv)).units + 1 < cLine := by omega
  have hN : N_is_alphabet.Nodup := by decide +kernel
  exact XSs.cons (XS.ifs (XT.not (XT.chain cLe cLe (XE.use (gInt)) (XE.use (gLen rfl G.b_len (gU 0 rfl (.inl rfl)))) (XE.use (gInt)) (by with_unfolding_all rfl))) (XSs.one (XS.ret (gBl))) (XSs.nil))
      (XSs.cons (XS.fors (passes_of rfl) rfl (XI.range1 rfl G.b_range (XE.use (gLen rfl G.b_len (gU 0 rfl (.inl rfl))))) (gTV 1 hN rfl (.inl rfl) (.inl rfl)) (XSs.cons (XS.ifs (XT.cmp (cNotInA hu65) (XE.use (XE.ix hu1 (gU 0 rfl (.inl rfl)) (gU 1 rfl (.inl rfl)) (fun _ _ => rfl))) (XE.use (gGlo rfl G.c_LETTERS (fun _ _ => .str _))) (by with_unfolding_all rfl)) (XSs.one (XS.ret (gBl))) (XSs.nil))
        (XSs.one (XS.ifs (XW.xt (XW.and (XT.cmp cGt (gU 1 rfl (.inl rfl)) (XE.use (gInt)) (nomark _)) (XW.and1 (XT.cmp cGeA (XE.use (XE.ix hu1 (gU 0 rfl (.inl rfl)) (XE.use (XE.sub (gU 1 rfl (.inl rfl)) (XE.use (gInt)))) (fun _ _ => rfl))) (XE.use (XE.ix hu1 (gU 0 rfl (.inl rfl)) (gU 1 rfl (.inl rfl)) (fun _ _ => rfl))) (nomark _))))) (XSs.one (XS.ret (gBl))) (XSs.nil)))) (fun _ => rfl))
      (XSs.one (XS.ret (gBl))))
theorem sc_is_alphabet : FnScope N_is_alphabet ["value"] (defScope s9) := ⟨rfl, rfl, rfl, by decide +kernel, rfl, by decide +kernel, by decide +kernel⟩
theorem fn_is_alphabet (G : Gs K mg) {f : Addr} {fd : FuncData} (F : FunD K "is_alphabet" "is_alphabet" (defArgs s9) (defBody s9) (defScope s9) [] [] f fd) (hg : mg "is_alphabet" = some (.ref f)) : FnD P w K mg base "is_alphabet" 1 1 [] φ_is_alphabet :=
  FnD.pos F sc_is_alphabet rfl hg (fun _ _ _ _ _ _ us hl => match us, hl with | [_], _ => rfl) (fun cdv A outer s H E hr => xs_is_alphabet G  _ cdv A outer s H E hr)
theorem xs_check_alphabet (G : Gs K mg) (F_is_alphabet : FnD P w K mg base "is_alphabet" 1 1 [] φ_is_alphabet) (f : Addr) (cdv : Value) (A : Around) (outer : List Env) (s : Shared) (H : Hp) (E : XK) (hr : Room 1 (A.deeper (PyProof.Rows.envOfC "check_alphabet" (defScope s10) s.heap.objs.size f cdv))) :
    XSs (cxOf CX0 P w K mg base N_check_alphabet "check_alphabet" (defScope s10) f cdv A outer s H E) (defBody s10) w_check_alphabet := by
  have hu64 := hr.units
  have hu65 : (A.deeper (PyProof.Rows.envOfC "check_alphabet" (defScope s10) s.heap.objs.size f cdv)).units + 65 < cLine := by have := hr.un; omega
  have hu1 : (A.deeper (PyProof.Rows.envOfC "check_alphabet" (defScope s10) s.heap.objs.size f cdv)).units + 1 < cLine := by omega
  have hN : N_check_alphabet.Nodup := by decide +kernel
  exact XSs.one (XS.ifs (XT.not (gT (XE.use (XE.call F_is_alphabet (hr.mono (by decide)) rfl (XAn.cons (gE 0 rfl (.inl rfl)) (XAn.nil)) rfl)))) (XSs.one (gNever)) (XSs.nil))
theorem sc_check_alphabet : FnScope N_check_alphabet ["alphabet"] (defScope s10) := ⟨rfl, rfl, rfl, by decide +kernel, rfl, by decide +kernel, by decide +kernel⟩
theorem fn_check_alphabet (G : Gs K mg) (F_is_alphabet : FnD P w K mg base "is_alphabet" 1 1 [] φ_is_alphabet) {f : Addr} {fd : FuncData} (F : FunD K "check_alphabet" "check_alphabet" (defArgs s10) (defBody s10) (defScope s10) [] [] f fd) (hg : mg "check_alphabet" = some (.ref f)) : FnD P w K mg base "check_alphabet" 2 1 [] φ_check_alphabet :=
  FnD.pos F sc_check_alphabet rfl hg (fun _ _ _ _ _ _ us hl => match us, hl with | [_], _ => rfl) (fun cdv A outer s H E hr => xs_check_alphabet G F_is_alphabet _ cdv A outer s H E hr)
theorem xs_is_variable (G : Gs K mg) (f : Addr) (cdv : Value) (A : Around) (outer : List Env) (s : Shared) (H : Hp) (E : XK) (hr : Room 0 (A.deeper (PyProof.Rows.envOfC "is_variable" (defScope s13) s.heap.objs.size f cdv))) :
    XSs (cxOf CX0 P w K mg base N_is_variable "is_variable" (defScope s13) f cdv A outer s H E) (defBody s13) w_is_variable := by
  have hu64 := hr.units
  have hu65 : (A.deeper (PyProof.Rows.envOfC "is_variable" (defScope s13) s.heap.objs.size f cdv)).units + 65 < cLine := by have := hr.un; omega
  have hu1 : (A.deeper (PyProof.Rows.envOfC "is_variable" (defScope s13) s.heap.objs.size f cdv)).units + 1 < cLine := by omega
  have hN : N_is_variable.Nodup := by decide +kernel
  exact XSs.one (XS.ret (XE.not (gIsA .str rfl rfl G.b_isinstance rfl G.b_str (gU 0 rfl (.inl rfl)))))
theorem sc_is_variable : FnScope N_is_variable ["symbol"] (defScope s13) := ⟨rfl, rfl, rfl, by decide +kernel, rfl, by decide +kernel, by decide +kernel⟩
theorem fn_is_variable (G : Gs K mg) {f : Addr} {fd : FuncData} (F : FunD K "is_variable" "is_variable" (defArgs s13) (defBody s13) (defScope s13) [] [] f fd) (hg : mg "is_variable" = some (.ref f)) : FnD P w K mg base "is_variable" 1 1 [] φ_is_variable :=
  FnD.pos F sc_is_variable rfl hg (fun _ _ _ _ _ _ us hl => match us, hl with | [_], _ => rfl) (fun cdv A outer s H E hr => xs_is_variable G  _ cdv A outer s H E hr)
theorem xs_is_whole (G : Gs K mg) (f : Addr) (cdv : Value) (A : Around) (outer : List Env) (s : Shared) (H : Hp) (E : XK) (hr : Room 0 (A.deeper (PyProof.Rows.envOfC "is_whole" (defScope s8) s.heap.objs.size f cdv))) :
    XSs (cxOf CX0 P w K mg base N_is_whole "is_whole" (defScope s8) f cdv A outer s H E) (defBody s8) w_is_whole := by
  have hu64 := hr.units
  have hu65 : (A.deeper (PyProof.Rows.envOfC "is_whole" (defScope s8) s.heap.objs.size f cdv)).units + 65 < cLine := by have := hr.un; omega
  have hu1 : (A.deeper (PyProof.Rows.envOfC "is_whole" (defScope s8) s.heap.objs.size f cdv)).units + 1 < cLine := by omega
  have hN : N_is_whole.Nodup := by decide +kernel
  exact XSs.one (XS.ret (XE.and (gIsA .int rfl rfl G.b_isinstance rfl G.b_int (gU 0 rfl (.inl rfl))) (XE.one (XE.not (gIsA .bool rfl rfl G.b_isinstance rfl G.b_bool (gU 0 rfl (.inl rfl)))))))
theorem sc_is_whole : FnScope N_is_whole ["value"] (defScope s8) := ⟨rfl, rfl, rfl, by decide +kernel, rfl, by decide +kernel, by decide +kernel⟩
theorem fn_is_whole (G : Gs K mg) {f : Addr} {fd : FuncData} (F : FunD K "is_whole" "is_whole" (defArgs s8) (defBody s8) (defScope s8) [] [] f fd) (hg : mg "is_whole" = some (.ref f)) : FnD P w K mg base "is_whole" 1 1 [] φ_is_whole :=
  FnD.pos F sc_is_whole rfl hg (fun _ _ _ _ _ _ us hl => match us, hl with | [_], _ => rfl) (fun cdv A outer s H E hr => xs_is_whole G  _ cdv A outer s H E hr)
theorem xs_is_symbol (G : Gs K mg) (F_is_whole : FnD P w K mg base "is_whole" 1 1 [] φ_is_whole) (f : Addr) (cdv : Value) (A : Around) (outer : List Env) (s : Shared) (H : Hp) (E : XK) (hr : Room 1 (A.deeper (PyProof.Rows.envOfC "is_symbol" (defScope s14) s.heap.objs.size f cdv))) :
    XSs (cxOf CX0 P w K mg base N_is_symbol "is_symbol" (defScope s14) f cdv A outer s H E) (defBody s14) w_is_symbol := by
  have hu64 := hr.units
  have hu65 : (A.deeper (PyProof.Rows.envOfC "is_symbol" (defScope s14) s.heap.objs.size f cdv)).units + 65 < cLine := by have := hr.un; omega
  have hu1 : (A.deeper (PyProof.Rows.envOfC "is_symbol" (defScope s14) s.heap.objs.size f cdv)).units + 1 < cLine := by omega
  have hN : N_is_symbol.Nodup := by decide +kernel
  exact XSs.cons (XS.ifs (gT (XE.use (gIsA .str rfl rfl G.b_isinstance rfl G.b_str (gU 0 rfl (.inl rfl))))) (XSs.one (XS.ret (XE.and (XE.cmp (cEq hu64) (XE.use (gLen rfl G.b_len (gU 0 rfl (.inl rfl)))) (XE.use (gInt)) (nomark _)) (XE.one (XE.cmp (cInA hu65) (gU 0 rfl (.inl rfl)) (gU 1 rfl (.inl rfl)) (by with_unfolding_all rfl)))))) (XSs.nil))
      (XSs.one (XS.ret (XE.and (XE.call F_is_whole (hr.mono (by decide)) rfl (XAn.cons (gE 0 rfl (.inl rfl)) (XAn.nil)) rfl) (XE.one (XE.chain cLe cLt (XE.use (gInt)) (gU 0 rfl (.inl rfl)) (gU 2 rfl (.inl rfl)) (by with_unfolding_all rfl))))))
theorem sc_is_symbol : FnScope N_is_symbol ["symbol", "alphabet", "variables"] (defScope s14) := ⟨rfl, rfl, rfl, by decide +kernel, rfl, by decide +kernel, by decide +kernel⟩
theorem fn_is_symbol (G : Gs K mg) (F_is_whole : FnD P w K mg base "is_whole" 1 1 [] φ_is_whole) {f : Addr} {fd : FuncData} (F : FunD K "is_symbol" "is_symbol" (defArgs s14) (defBody s14) (defScope s14) [] [] f fd) (hg : mg "is_symbol" = some (.ref f)) : FnD P w K mg base "is_symbol" 2 3 [] φ_is_symbol :=
  FnD.pos F sc_is_symbol rfl hg (fun _ _ _ _ _ _ us hl => match us, hl with | [_, _, _], _ => rfl) (fun cdv A outer s H E hr => xs_is_symbol G F_is_whole _ cdv A outer s H E hr)
theorem xs_is_rule (G : Gs K mg) (F_is_variable : FnD P w K mg base "is_variable" 1 1 [] φ_is_variable) (F_is_symbol : FnD P w K mg base "is_symbol" 2 3 [] φ_is_symbol) (f : Addr) (cdv : Value) (A : Around) (outer : List Env) (s : Shared) (H : Hp) (E : XK) (hr : Room 2 (A.deeper (PyProof.Rows.envOfC "is_rule" (defScope s15) s.heap.objs.size f cdv))) :
    XSs (cxOf CX0 P w K mg base N_is_rule "is_rule" (defScope s15) f cdv A outer s H E) (defBody s15) w_is_rule := by
  have hu64 := hr.units
  have hu65 : (A.deeper (PyProof.Rows.envOfC "is_rule" (defScope s15) s.heap.objs.size f cdv)).units + 65 < cLine := by have := hr.un; omega
  have hu1 : (A.deeper (PyProof.Rows.envOfC "is_rule" (defScope s15) s.heap.objs.size f cdv)).units + 1 < cLine := by omega
  have hN : N_is_rule.Nodup := by decide +kernel
  exact XSs.cons (XS.fors (passes_of rfl) rfl (XI.any (XE.addA (gU 0 rfl (.inl rfl)) (gU 1 rfl (.inl rfl)))) (gTV 4 hN rfl (.inl rfl) (.inl rfl)) (XSs.one (XS.ifs (XT.not (gT (XE.use (XE.call F_is_symbol (hr.mono (by decide)) rfl (XAn.cons (gE 4 rfl (.inl rfl)) (XAn.cons (gE 2 rfl (.inl rfl)) (XAn.cons (gE 3 rfl (.inl rfl)) (XAn.nil)))) rfl)))) (XSs.one (XS.ret (gBl))) (XSs.nil))) (fun _ => rfl))
      (XSs.cons (XS.fors (passes_of rfl) rfl (XI.any (gE 0 rfl (.inl rfl))) (gTV 4 hN rfl (.inl rfl) (.inl rfl)) (XSs.one (XS.ifs (gT (XE.use (XE.call F_is_variable (hr.mono (by decide)) rfl (XAn.cons (gE 4 rfl (.inl rfl)) (XAn.nil)) rfl))) (XSs.one (XS.ret (gBl))) (XSs.nil))) (fun _ => rfl))
      (XSs.one (XS.ret (gBl))))
theorem sc_is_rule : FnScope N_is_rule ["left", "right", "alphabet", "variables"] (defScope s15) := ⟨rfl, rfl, rfl, by decide +kernel, rfl, by decide +kernel, by decide +kernel⟩
theorem fn_is_rule (G : Gs K mg) (F_is_variable : FnD P w K mg base "is_variable" 1 1 [] φ_is_variable) (F_is_symbol : FnD P w K mg base "is_symbol" 2 3 [] φ_is_symbol) {f : Addr} {fd : FuncData} (F : FunD K "is_rule" "is_rule" (defArgs s15) (defBody s15) (defScope s15) [] [] f fd) (hg : mg "is_rule" = some (.ref f)) : FnD P w K mg base "is_rule" 3 4 [] φ_is_rule :=
  FnD.pos F sc_is_rule rfl hg (fun _ _ _ _ _ _ us hl => match us, hl with | [_, _, _, _], _ => rfl) (fun cdv A outer s H E hr => xs_is_rule G F_is_variable F_is_symbol _ cdv A outer s H E hr)
theorem xs_Grammar_init (G : Gs K mg) (F_check_alphabet : FnD P w K mg base "check_alphabet" 2 1 [] φ_check_alphabet) (F_is_rule : FnD P w K mg base "is_rule" 3 4 [] φ_is_rule) (f : Addr) (cdv : Value) (A : Around) (outer : List Env) (s : Shared) (H : Hp) (E : XK) (hr : Room 3 (A.deeper (PyProof.Rows.envOfC "Grammar.__init__" (defScope s16) s.heap.objs.size f cdv))) :
    XSs (cxOf CX0 P w K mg base N_Grammar_init "Grammar.__init__" (defScope s16) f cdv A outer s H E) (defBody s16) w_Grammar_init := by
  have hu64 := hr.units
  have hu65 : (A.deeper (PyProof.Rows.envOfC "Grammar.__init__" (defScope s16) s.heap.objs.size f cdv)).units + 65 < cLine := by have := hr.un; omega
  have hu1 : (A.deeper (PyProof.Rows.envOfC "Grammar.__init__" (defScope s16) s.heap.objs.size f cdv)).units + 1 < cLine := by omega
  have hN : N_Grammar_init.Nodup := by decide +kernel
  exact XSs.cons (gDrop (XE.call F_check_alphabet (hr.mono (by decide)) rfl (XAn.cons (gE 1 rfl (.inl rfl)) (XAn.nil)) rfl))
      (XSs.cons (XS.ifs (XT.cmp cLt (gU 2 rfl (.inl rfl)) (XE.use (gInt)) (nomark _)) (XSs.one (gNever)) (XSs.nil))
      (XSs.cons (gSet 4 hN rfl (.inl rfl) (.inl rfl) (XE.lst (XAn.xa (XAn.nil))))
      (XSs.cons (XS.fors (passes_of rfl) rfl (XI.enum rfl G.b_enumerate (gE 3 rfl (.inl rfl))) (gTT (n := 2) rfl (gTC (gTV 5 hN rfl (.inl rfl) (.inl rfl)) (gTC (gTV 6 hN rfl (.inl rfl) (.inl rfl)) (XGs.nil)))) (XSs.cons (gPar (i := 7) (j := 8) rfl hN rfl rfl (by decide) rfl rfl (XAn.xa (XAn.cons (gTuple rfl G.b_tuple (XE.use (XE.ix hu1 (gU 6 rfl (.inl rfl)) (XE.use (gInt)) (fun _ _ => rfl)))) (XAn.cons (gTuple rfl G.b_tuple (XE.use (XE.ix hu1 (gU 6 rfl (.inl rfl)) (XE.use (gInt)) (fun _ _ => rfl)))) (XAn.nil)))) rfl)
        (XSs.cons (XS.ifs (XT.not (gT (XE.use (XE.call F_is_rule (hr.mono (by decide)) rfl (XAn.cons (gE 7 rfl (.inl rfl)) (XAn.cons (gE 8 rfl (.inl rfl)) (XAn.cons (gE 1 rfl (.inl rfl)) (XAn.cons (gE 2 rfl (.inl rfl)) (XAn.nil))))) rfl)))) (XSs.one (gNever)) (XSs.nil))
        (XSs.one (gApp (i := 4) rfl (.inl rfl) (XE.tup (XAn.xa (XAn.cons (gE 7 rfl (.inl rfl)) (XAn.cons (gE 8 rfl (.inl rfl)) (XAn.nil))))))))) (fun _ => rfl))
      (XSs.cons (XS.setF G.F_alphabet (pe_var (i := 0) rfl (.inl rfl)) (gE 1 rfl (.inl rfl)) rfl)
      (XSs.cons (XS.setF G.F_variables (pe_var (i := 0) rfl (.inl rfl)) (gE 2 rfl (.inl rfl)) rfl)
      (XSs.one (XS.setF G.F_rules (pe_var (i := 0) rfl (.inl rfl)) (gTuple rfl G.b_tuple (gU 4 rfl (.inl rfl))) rfl)))))))
theorem sc_Grammar_init : FnScope N_Grammar_init ["self", "alphabet", "variables", "rules"] (defScope s16) := ⟨rfl, rfl, rfl, by decide +kernel, rfl, by decide +kernel, by decide +kernel⟩
theorem fn_Grammar_init (G : Gs K mg) (F_check_alphabet : FnD P w K mg base "check_alphabet" 2 1 [] φ_check_alphabet) (F_is_rule : FnD P w K mg base "is_rule" 3 4 [] φ_is_rule) {fd : FuncData} (F : FunD K "__init__" "Grammar.__init__" (defArgs s16) (defBody s16) (defScope s16) [] [] (He.ma K (He.ga K "Grammar") "__init__") fd) : MkD P w K mg base "Grammar" 4 3 φ_Grammar_init :=
  MkD.init F sc_Grammar_init rfl G.g_Grammar G.m_Grammar (fun _ _ _ _ _ _ us hl => match us, hl with | [_, _, _, _], _ => rfl) (fun cdv A outer s H E hr => xs_Grammar_init G F_check_alphabet F_is_rule _ cdv A outer s H E hr)
theorem xs__law_befores (G : Gs K mg) (f : Addr) (cdv : Value) (A : Around) (outer : List Env) (s : Shared) (H : Hp) (E : XK) (hr : Room 0 (A.deeper (PyProof.Rows.envOfC "_law_befores" (defScope s35) s.heap.objs.size f cdv))) :
    XSs (cxOf CX0 P w K mg base N__law_befores "_law_befores" (defScope s35) f cdv A outer s H E) (defBody s35) w__law_befores := by
  have hu64 := hr.units
  have hu65 : (A.deeper (PyProof.Rows.envOfC "_law_befores" (defScope s35) s.heap.objs.size f cdv)).units + 65 < cLine := by have := hr.un; omega
  have hu1 : (A.deeper (PyProof.Rows.envOfC "_law_befores" (defScope s35) s.heap.objs.size f cdv)).units + 1 < cLine := by omega
  have hN : N__law_befores.Nodup := by decide +kernel
  exact XSs.cons (gSet 2 hN rfl (.inl rfl) (.inl rfl) (XE.lst (XAn.xa (XAn.nil))))
      (XSs.cons (XS.fors (passes_of rfl) rfl (XI.range1 rfl G.b_range (XE.use (gLen rfl G.b_len (gU 0 rfl (.inl rfl))))) (gTV 3 hN rfl (.inl rfl) (.inl rfl)) (XSs.cons (gSet 4 hN rfl (.inl rfl) (.inl rfl) (XE.ix hu1 (XE.use (XE.ix hu1 (gU 0 rfl (.inl rfl)) (gU 3 rfl (.inl rfl)) (fun _ _ => rfl))) (XE.use (gInt)) (fun _ _ => rfl)))
        (XSs.one (XS.fors (passes_of rfl) rfl (XI.range1 rfl G.b_range (XE.use (XE.addA (XE.use (XE.sub (XE.use (gLen rfl G.b_len (gU 1 rfl (.inl rfl)))) (XE.use (gLen rfl G.b_len (gU 4 rfl (.inl rfl)))))) (XE.use (gInt))))) (gTV 5 hN rfl (.inl rfl) (.inl rfl)) (XSs.one (XS.ifs (XW.xt (XW.and (XT.cmp cGt (XE.use (gLen rfl G.b_len (gU 4 rfl (.inl rfl)))) (XE.use (gInt)) (nomark _)) (XW.and1 (XT.cmp (cEq hu64) (XE.use (XE.slice (gU 1 rfl (.inl rfl)) (XO.some (gU 5 rfl (.inl rfl))) (XO.some (XE.use (XE.addA (gU 5 rfl (.inl rfl)) (XE.use (gLen rfl G.b_len (gU 4 rfl (.inl rfl))))))))) (gU 4 rfl (.inl rfl)) (nomark _))))) (XSs.one (gApp (i := 2) rfl (.inl rfl) (XE.lst (XAn.xa (XAn.cons (gE 3 rfl (.inl rfl)) (XAn.cons (gE 5 rfl (.inl rfl)) (XAn.cons (XE.addA (XE.use (XE.addA (XE.use (XE.slice (gU 1 rfl (.inl rfl)) (XO.none) (XO.some (gU 5 rfl (.inl rfl))))) (XE.use (XE.ix hu1 (XE.use (XE.ix hu1 (gU 0 rfl (.inl rfl)) (gU 3 rfl (.inl rfl)) (fun _ _ => rfl))) (XE.use (gInt)) (fun _ _ => rfl))))) (XE.use (XE.slice (gU 1 rfl (.inl rfl)) (XO.some (XE.use (XE.addA (gU 5 rfl (.inl rfl)) (XE.use (gLen rfl G.b_len (gU 4 rfl (.inl rfl))))))) (XO.none)))) (XAn.nil)))))))) (XSs.nil))) (fun _ => rfl)))) (fun _ => rfl))
      (XSs.one (XS.retN (pe_var rfl (.inl rfl)))))
theorem sc__law_befores : FnScope N__law_befores ["rules", "form"] (defScope s35) := ⟨rfl, rfl, rfl, by decide +kernel, rfl, by decide +kernel, by decide +kernel⟩
theorem fn__law_befores (G : Gs K mg) {f : Addr} {fd : FuncData} (F : FunD K "_law_befores" "_law_befores" (defArgs s35) (defBody s35) (defScope s35) [] [] f fd) (hg : mg "_law_befores" = some (.ref f)) : FnD P w K mg base "_law_befores" 1 2 [] φ__law_befores :=
  FnD.pos F sc__law_befores rfl hg (fun _ _ _ _ _ _ us hl => match us, hl with | [_, _], _ => rfl) (fun cdv A outer s H E hr => xs__law_befores G  _ cdv A outer s H E hr)
theorem xs__law_counted_rows (G : Gs K mg) (F__law_befores : FnD P w K mg base "_law_befores" 1 2 [] φ__law_befores) (f : Addr) (cdv : Value) (A : Around) (outer : List Env) (s : Shared) (H : Hp) (E : XK) (hr : Room 1 (A.deeper (PyProof.Rows.envOfC "_law_counted_rows" (defScope s38) s.heap.objs.size f cdv))) :
    XSs (cxOf CX0 P w K mg base N__law_counted_rows "_law_counted_rows" (defScope s38) f cdv A outer s H E) (defBody s38) w__law_counted_rows := by
  have hu64 := hr.units
  have hu65 : (A.deeper (PyProof.Rows.envOfC "_law_counted_rows" (defScope s38) s.heap.objs.size f cdv)).units + 65 < cLine := by have := hr.un; omega
  have hu1 : (A.deeper (PyProof.Rows.envOfC "_law_counted_rows" (defScope s38) s.heap.objs.size f cdv)).units + 1 < cLine := by omega
  have hN : N__law_counted_rows.Nodup := by decide +kernel
  exact XSs.cons (gSet 3 hN rfl (.inl rfl) (.inl rfl) (gInt))
      (XSs.cons (gSet 4 hN rfl (.inl rfl) (.inl rfl) (XE.dispT hu1 (XE.use (gTuple rfl G.b_tuple (XE.use (gLc hN rfl (own := [("letter", 9)]) (XI.any (gE 1 rfl (.inl rfl))) (blkOk (by kernel_rfl)) (by decide) (fun _ _ _ _ _ => gTV 9 hN rfl (.inl (by kernel_rfl)) (.inr (by kernel_rfl))) (fun _ _ _ _ _ => XTs.nil) (fun _ _ _ _ _ => gE 9 rfl (.inl (by kernel_rfl))))))) (gInt)))
      (XSs.cons (XS.fors (passes_of rfl) rfl (XI.range1 rfl G.b_range (gU 2 rfl (.inl rfl))) (gTV 5 hN rfl (.inl rfl) (.inl rfl)) (XSs.cons (gSet 6 hN rfl (.inl rfl) (.inl rfl) (gD0))
        (XSs.cons (XS.forK (passes_of rfl) rfl (pe_var (i := 4) rfl (.inl rfl)) (gTV 7 hN rfl (.inl rfl) (.inl rfl)) (XSs.one (XS.fors (passes_of rfl) rfl (XI.any (XE.call F__law_befores (hr.mono (by decide)) rfl (XAn.cons (gE 0 rfl (.inl rfl)) (XAn.cons (gE 7 rfl (.inl rfl)) (XAn.nil))) rfl)) (gTV 8 hN rfl (.inl rfl) (.inl rfl)) (XSs.one (gPut (i := 6) hu1 rfl (.inl rfl) (XE.use (XE.ix hu1 (gU 8 rfl (.inl rfl)) (XE.use (gInt)) (fun _ _ => rfl))) (XE.addA (XE.use (XE.get2 hu1 (gU 6 rfl (.inl rfl)) (XE.use (XE.ix hu1 (gU 8 rfl (.inl rfl)) (XE.use (gInt)) (fun _ _ => rfl))) (gInt) ⟨rfl, rfl, rfl, rfl⟩)) (XE.use (XE.ix hu1 (gU 4 rfl (.inl rfl)) (gU 7 rfl (.inl rfl)) (fun _ _ => rfl)))))) (fun _ => rfl))) (fun _ => rfl))
        (XSs.cons (gSet 3 hN rfl (.inl rfl) (.inl rfl) (XE.addA (gU 3 rfl (.inl rfl)) (XE.use (XE.get2 hu1 (gU 6 rfl (.inl rfl)) (XE.use (XE.tup (XAn.xa (XAn.cons (gInt) (XAn.nil))))) (gInt) ⟨rfl, rfl, rfl, rfl⟩))))
        (XSs.one (gSet 4 hN rfl (.inl rfl) (.inl rfl) (gE 6 rfl (.inl rfl))))))) (fun _ => rfl))
      (XSs.one (XS.retN (pe_var rfl (.inl rfl))))))
theorem sc__law_counted_rows : FnScope N__law_counted_rows ["rules", "text", "pairs"] (defScope s38) := ⟨rfl, rfl, rfl, by decide +kernel, rfl, by decide +kernel, by decide +kernel⟩
theorem fn__law_counted_rows (G : Gs K mg) (F__law_befores : FnD P w K mg base "_law_befores" 1 2 [] φ__law_befores) {f : Addr} {fd : FuncData} (F : FunD K "_law_counted_rows" "_law_counted_rows" (defArgs s38) (defBody s38) (defScope s38) [] [] f fd) (hg : mg "_law_counted_rows" = some (.ref f)) : FnD P w K mg base "_law_counted_rows" 2 3 [] φ__law_counted_rows :=
  FnD.pos F sc__law_counted_rows rfl hg (fun _ _ _ _ _ _ us hl => match us, hl with | [_, _, _], _ => rfl) (fun cdv A outer s H E hr => xs__law_counted_rows G F__law_befores _ cdv A outer s H E hr)
theorem xs_start_is_brought (G : Gs K mg) (F_is_variable : FnD P w K mg base "is_variable" 1 1 [] φ_is_variable) (f : Addr) (cdv : Value) (A : Around) (outer : List Env) (s : Shared) (H : Hp) (E : XK) (hr : Room 1 (A.deeper (PyProof.Rows.envOfC "start_is_brought" (defScope s18) s.heap.objs.size f cdv))) :
    XSs (cxOf CX0 P w K mg base N_start_is_brought "start_is_brought" (defScope s18) f cdv A outer s H E) (defBody s18) w_start_is_brought := by
  have hu64 := hr.units
  have hu65 : (A.deeper (PyProof.Rows.envOfC "start_is_brought" (defScope s18) s.heap.objs.size f cdv)).units + 65 < cLine := by have := hr.un; omega
  have hu1 : (A.deeper (PyProof.Rows.envOfC "start_is_brought" (defScope s18) s.heap.objs.size f cdv)).units + 1 < cLine := by omega
  have hN : N_start_is_brought.Nodup := by decide +kernel
  exact XSs.cons (XS.fors (passes_of rfl) rfl (XI.any (gE 0 rfl (.inl rfl))) (gTT (n := 2) rfl (gTC (gTV 1 hN rfl (.inl rfl) (.inl rfl)) (gTC (gTV 2 hN rfl (.inl rfl) (.inl rfl)) (XGs.nil)))) (XSs.one (XS.fors (passes_of rfl) rfl (XI.any (gE 2 rfl (.inl rfl))) (gTV 3 hN rfl (.inl rfl) (.inl rfl)) (XSs.one (XS.ifs (XW.xt (XW.and (gT (XE.use (XE.call F_is_variable (hr.mono (by decide)) rfl (XAn.cons (gE 3 rfl (.inl rfl)) (XAn.nil)) rfl))) (XW.and1 (XT.cmp (cEq hu64) (gU 3 rfl (.inl rfl)) (XE.use (gInt)) (nomark _))))) (XSs.one (XS.ret (gBl))) (XSs.nil))) (fun _ => rfl))) (fun _ => rfl))
      (XSs.one (XS.ret (gBl)))
theorem sc_start_is_brought : FnScope N_start_is_brought ["rules"] (defScope s18) := ⟨rfl, rfl, rfl, by decide +kernel, rfl, by decide +kernel, by decide +kernel⟩
theorem fn_start_is_brought (G : Gs K mg) (F_is_variable : FnD P w K mg base "is_variable" 1 1 [] φ_is_variable) {f : Addr} {fd : FuncData} (F : FunD K "start_is_brought" "start_is_brought" (defArgs s18) (defBody s18) (defScope s18) [] [] f fd) (hg : mg "start_is_brought" = some (.ref f)) : FnD P w K mg base "start_is_brought" 2 1 [] φ_start_is_brought :=
  FnD.pos F sc_start_is_brought rfl hg (fun _ _ _ _ _ _ us hl => match us, hl with | [_], _ => rfl) (fun cdv A outer s H E hr => xs_start_is_brought G F_is_variable _ cdv A outer s H E hr)
theorem xs_is_of_kind (G : Gs K mg) (F_is_variable : FnD P w K mg base "is_variable" 1 1 [] φ_is_variable) (f : Addr) (cdv : Value) (A : Around) (outer : List Env) (s : Shared) (H : Hp) (E : XK) (hr : Room 1 (A.deeper (PyProof.Rows.envOfC "is_of_kind" (defScope s19) s.heap.objs.size f cdv))) :
    XSs (cxOf CX0 P w K mg base N_is_of_kind "is_of_kind" (defScope s19) f cdv A outer s H E) (defBody s19) w_is_of_kind := by
  have hu64 := hr.units
  have hu65 : (A.deeper (PyProof.Rows.envOfC "is_of_kind" (defScope s19) s.heap.objs.size f cdv)).units + 65 < cLine := by have := hr.un; omega
  have hu1 : (A.deeper (PyProof.Rows.envOfC "is_of_kind" (defScope s19) s.heap.objs.size f cdv)).units + 1 < cLine := by omega
  have hN : N_is_of_kind.Nodup := by decide +kernel
  exact XSs.cons (XS.ifs (XT.cmp (cEq hu64) (gU 2 rfl (.inl rfl)) (XE.use (gInt)) (nomark _)) (XSs.cons (XS.ifs (XW.xt (XW.or (XT.cmp (cNe hu64) (XE.use (gLen rfl G.b_len (gU 0 rfl (.inl rfl)))) (XE.use (gInt)) (nomark _)) (XW.or (XT.not (XT.chain cLe cLe (XE.use (gInt)) (XE.use (gLen rfl G.b_len (gU 1 rfl (.inl rfl)))) (XE.use (gInt)) (by with_unfolding_all rfl))) (XW.or1 (gT (XE.use (XE.call F_is_variable (hr.mono (by decide)) rfl (XAn.cons (XE.ix hu1 (gU 1 rfl (.inl rfl)) (XE.use (gInt)) (fun _ _ => rfl)) (XAn.nil)) rfl))))))) (XSs.one (XS.ret (gBl))) (XSs.nil))
        (XSs.one (XS.ret (XE.or (XE.cmp (cEq hu64) (XE.use (gLen rfl G.b_len (gU 1 rfl (.inl rfl)))) (XE.use (gInt)) (nomark _)) (XE.one (XE.call F_is_variable (hr.mono (by decide)) rfl (XAn.cons (XE.ix hu1 (gU 1 rfl (.inl rfl)) (XE.use (gInt)) (fun _ _ => rfl)) (XAn.nil)) rfl)))))) (XSs.nil))
      (XSs.cons (XS.ifs (XT.cmp (cEq hu64) (gU 2 rfl (.inl rfl)) (XE.use (gInt)) (nomark _)) (XSs.one (XS.ret (XE.cmp (cEq hu64) (XE.use (gLen rfl G.b_len (gU 0 rfl (.inl rfl)))) (XE.use (gInt)) (nomark _)))) (XSs.nil))
      (XSs.one (XS.ret (XE.or (XE.cmp (cEq hu64) (gU 2 rfl (.inl rfl)) (XE.use (gInt)) (nomark _)) (XE.one (XE.cmp cLe (XE.use (gLen rfl G.b_len (gU 0 rfl (.inl rfl)))) (XE.use (gLen rfl G.b_len (gU 1 rfl (.inl rfl)))) (nomark _)))))))
theorem sc_is_of_kind : FnScope N_is_of_kind ["left", "right", "kind"] (defScope s19) := ⟨rfl, rfl, rfl, by decide +kernel, rfl, by decide +kernel, by decide +kernel⟩
theorem fn_is_of_kind (G : Gs K mg) (F_is_variable : FnD P w K mg base "is_variable" 1 1 [] φ_is_variable) {f : Addr} {fd : FuncData} (F : FunD K "is_of_kind" "is_of_kind" (defArgs s19) (defBody s19) (defScope s19) [] [] f fd) (hg : mg "is_of_kind" = some (.ref f)) : FnD P w K mg base "is_of_kind" 2 3 [] φ_is_of_kind :=
  FnD.pos F sc_is_of_kind rfl hg (fun _ _ _ _ _ _ us hl => match us, hl with | [_, _, _], _ => rfl) (fun cdv A outer s H E hr => xs_is_of_kind G F_is_variable _ cdv A outer s H E hr)
theorem xs_breaking_rule (G : Gs K mg) (F_start_is_brought : FnD P w K mg base "start_is_brought" 2 1 [] φ_start_is_brought) (F_is_of_kind : FnD P w K mg base "is_of_kind" 2 3 [] φ_is_of_kind) (f : Addr) (cdv : Value) (A : Around) (outer : List Env) (s : Shared) (H : Hp) (E : XK) (hr : Room 2 (A.deeper (PyProof.Rows.envOfC "breaking_rule" (defScope s20) s.heap.objs.size f cdv))) :
    XSs (cxOf CX0 P w K mg base N_breaking_rule "breaking_rule" (defScope s20) f cdv A outer s H E) (defBody s20) w_breaking_rule := by
  have hu64 := hr.units
  have hu65 : (A.deeper (PyProof.Rows.envOfC "breaking_rule" (defScope s20) s.heap.objs.size f cdv)).units + 65 < cLine := by have := hr.un; omega
  have hu1 : (A.deeper (PyProof.Rows.envOfC "breaking_rule" (defScope s20) s.heap.objs.size f cdv)).units + 1 < cLine := by omega
  have hN : N_breaking_rule.Nodup := by decide +kernel
  exact XSs.cons (XS.ifs (XT.not (XT.chain cLe cLe (XE.use (gInt)) (gU 1 rfl (.inl rfl)) (XE.use (gInt)) (by with_unfolding_all rfl))) (XSs.one (gNever)) (XSs.nil))
      (XSs.cons (gSet 2 hN rfl (.inl rfl) (.inl rfl) (XE.and (XE.cmp (cInA hu65) (gU 1 rfl (.inl rfl)) (XE.use (XE.tup (XAn.xa (XAn.cons (gInt) (XAn.cons (gInt) (XAn.nil)))))) (by with_unfolding_all rfl)) (XE.one (XE.not (XE.call F_start_is_brought (hr.mono (by decide)) rfl (XAn.cons (XE.fld G.F_rules (gU 0 rfl (.inl rfl)) rfl) (XAn.nil)) rfl)))))
      (XSs.cons (XS.fors (passes_of rfl) rfl (XI.enum rfl G.b_enumerate (XE.fld G.F_rules (gU 0 rfl (.inl rfl)) rfl)) (gTT (n := 2) rfl (gTC (gTV 3 hN rfl (.inl rfl) (.inl rfl)) (gTC (gTT (n := 2) rfl (gTC (gTV 5 hN rfl (.inl rfl) (.inl rfl)) (gTC (gTV 6 hN rfl (.inl rfl) (.inl rfl)) (XGs.nil)))) (XGs.nil)))) (XSs.cons (gSet 4 hN rfl (.inl rfl) (.inl rfl) (XE.and (gE 2 rfl (.inl rfl)) (XE.and (XE.cmp (cEq hu64) (gU 5 rfl (.inl rfl)) (XE.use (XE.tup (XAn.xa (XAn.cons (gInt) (XAn.nil))))) (nomark _)) (XE.one (XE.cmp (cEq hu64) (gU 6 rfl (.inl rfl)) (XE.use (XE.tup (XAn.xa (XAn.nil)))) (nomark _))))))
        (XSs.one (XS.ifs (XW.xt (XW.and (XT.not (gT (gU 4 rfl (.inl rfl)))) (XW.and1 (XT.not (gT (XE.use (XE.call F_is_of_kind (hr.mono (by decide)) rfl (XAn.cons (gE 5 rfl (.inl rfl)) (XAn.cons (gE 6 rfl (.inl rfl)) (XAn.cons (gE 1 rfl (.inl rfl)) (XAn.nil)))) rfl))))))) (XSs.one (XS.retN (pe_var rfl (.inl rfl)))) (XSs.nil)))) (fun _ => rfl))
      (XSs.one (XS.ret (gNon)))))
theorem sc_breaking_rule : FnScope N_breaking_rule ["grammar", "kind"] (defScope s20) := ⟨rfl, rfl, rfl, by decide +kernel, rfl, by decide +kernel, by decide +kernel⟩
theorem fn_breaking_rule (G : Gs K mg) (F_start_is_brought : FnD P w K mg base "start_is_brought" 2 1 [] φ_start_is_brought) (F_is_of_kind : FnD P w K mg base "is_of_kind" 2 3 [] φ_is_of_kind) {f : Addr} {fd : FuncData} (F : FunD K "breaking_rule" "breaking_rule" (defArgs s20) (defBody s20) (defScope s20) [] [] f fd) (hg : mg "breaking_rule" = some (.ref f)) : FnD P w K mg base "breaking_rule" 3 2 [] φ_breaking_rule :=
  FnD.pos F sc_breaking_rule rfl hg (fun _ _ _ _ _ _ us hl => match us, hl with | [_, _], _ => rfl) (fun cdv A outer s H E hr => xs_breaking_rule G F_start_is_brought F_is_of_kind _ cdv A outer s H E hr)
theorem xs_check_kind (G : Gs K mg) (F_breaking_rule : FnD P w K mg base "breaking_rule" 3 2 [] φ_breaking_rule) (f : Addr) (cdv : Value) (A : Around) (outer : List Env) (s : Shared) (H : Hp) (E : XK) (hr : Room 3 (A.deeper (PyProof.Rows.envOfC "check_kind" (defScope s21) s.heap.objs.size f cdv))) :
    XSs (cxOf CX0 P w K mg base N_check_kind "check_kind" (defScope s21) f cdv A outer s H E) (defBody s21) w_check_kind := by
  have hu64 := hr.units
  have hu65 : (A.deeper (PyProof.Rows.envOfC "check_kind" (defScope s21) s.heap.objs.size f cdv)).units + 65 < cLine := by have := hr.un; omega
  have hu1 : (A.deeper (PyProof.Rows.envOfC "check_kind" (defScope s21) s.heap.objs.size f cdv)).units + 1 < cLine := by omega
  have hN : N_check_kind.Nodup := by decide +kernel
  exact XSs.cons (gSet 2 hN rfl (.inl rfl) (.inl rfl) (XE.call F_breaking_rule (hr.mono (by decide)) rfl (XAn.cons (gE 0 rfl (.inl rfl)) (XAn.cons (gE 1 rfl (.inl rfl)) (XAn.nil))) rfl))
      (XSs.one (XS.ifs (XT.cmp cIsNot (gU 2 rfl (.inl rfl)) (XE.use (gNon)) (nomark _)) (XSs.one (gNever)) (XSs.nil)))
theorem sc_check_kind : FnScope N_check_kind ["grammar", "kind"] (defScope s21) := ⟨rfl, rfl, rfl, by decide +kernel, rfl, by decide +kernel, by decide +kernel⟩
theorem fn_check_kind (G : Gs K mg) (F_breaking_rule : FnD P w K mg base "breaking_rule" 3 2 [] φ_breaking_rule) {f : Addr} {fd : FuncData} (F : FunD K "check_kind" "check_kind" (defArgs s21) (defBody s21) (defScope s21) [] [] f fd) (hg : mg "check_kind" = some (.ref f)) : FnD P w K mg base "check_kind" 4 2 [] φ_check_kind :=
  FnD.pos F sc_check_kind rfl hg (fun _ _ _ _ _ _ us hl => match us, hl with | [_, _], _ => rfl) (fun cdv A outer s H E hr => xs_check_kind G F_breaking_rule _ cdv A outer s H E hr)
theorem xs_first_stranger (G : Gs K mg) (f : Addr) (cdv : Value) (A : Around) (outer : List Env) (s : Shared) (H : Hp) (E : XK) (hr : Room 0 (A.deeper (PyProof.Rows.envOfC "first_stranger" (defScope s11) s.heap.objs.size f cdv))) :
    XSs (cxOf CX0 P w K mg base N_first_stranger "first_stranger" (defScope s11) f cdv A outer s H E) (defBody s11) w_first_stranger := by
  have hu64 := hr.units
  have hu65 : (A.deeper (PyProof.Rows.envOfC "first_stranger" (defScope s11) s.heap.objs.size f cdv)).units + 65 < cLine := by have := hr.un; omega
  have hu1 : (A.deeper (PyProof.Rows.envOfC "first_stranger" (defScope s11) s.heap.objs.size f cdv)).units + 1 < cLine := by omega
  have hN : N_first_stranger.Nodup := by decide +kernel
  exact XSs.cons (XS.fors (passes_of rfl) rfl (XI.range1 rfl G.b_range (XE.use (gLen rfl G.b_len (gU 1 rfl (.inl rfl))))) (gTV 2 hN rfl (.inl rfl) (.inl rfl)) (XSs.one (XS.ifs (XT.cmp (cNotInA hu65) (XE.use (XE.ix hu1 (gU 1 rfl (.inl rfl)) (gU 2 rfl (.inl rfl)) (fun _ _ => rfl))) (gU 0 rfl (.inl rfl)) (by with_unfolding_all rfl)) (XSs.one (XS.retN (pe_var rfl (.inl rfl)))) (XSs.nil))) (fun _ => rfl))
      (XSs.one (XS.ret (gNon)))
theorem sc_first_stranger : FnScope N_first_stranger ["alphabet", "text"] (defScope s11) := ⟨rfl, rfl, rfl, by decide +kernel, rfl, by decide +kernel, by decide +kernel⟩
theorem fn_first_stranger (G : Gs K mg) {f : Addr} {fd : FuncData} (F : FunD K "first_stranger" "first_stranger" (defArgs s11) (defBody s11) (defScope s11) [] [] f fd) (hg : mg "first_stranger" = some (.ref f)) : FnD P w K mg base "first_stranger" 1 2 [] φ_first_stranger :=
  FnD.pos F sc_first_stranger rfl hg (fun _ _ _ _ _ _ us hl => match us, hl with | [_, _], _ => rfl) (fun cdv A outer s H E hr => xs_first_stranger G  _ cdv A outer s H E hr)
theorem xs_check_text (G : Gs K mg) (F_check_alphabet : FnD P w K mg base "check_alphabet" 2 1 [] φ_check_alphabet) (F_first_stranger : FnD P w K mg base "first_stranger" 1 2 [] φ_first_stranger) (f : Addr) (cdv : Value) (A : Around) (outer : List Env) (s : Shared) (H : Hp) (E : XK) (hr : Room 2 (A.deeper (PyProof.Rows.envOfC "check_text" (defScope s12) s.heap.objs.size f cdv))) :
    XSs (cxOf CX0 P w K mg base N_check_text "check_text" (defScope s12) f cdv A outer s H E) (defBody s12) w_check_text := by
  have hu64 := hr.units
  have hu65 : (A.deeper (PyProof.Rows.envOfC "check_text" (defScope s12) s.heap.objs.size f cdv)).units + 65 < cLine := by have := hr.un; omega
  have hu1 : (A.deeper (PyProof.Rows.envOfC "check_text" (defScope s12) s.heap.objs.size f cdv)).units + 1 < cLine := by omega
  have hN : N_check_text.Nodup := by decide +kernel
  exact XSs.cons (gDrop (XE.call F_check_alphabet (hr.mono (by decide)) rfl (XAn.cons (gE 0 rfl (.inl rfl)) (XAn.nil)) rfl))
      (XSs.cons (gSet 2 hN rfl (.inl rfl) (.inl rfl) (XE.call F_first_stranger (hr.mono (by decide)) rfl (XAn.cons (gE 0 rfl (.inl rfl)) (XAn.cons (gE 1 rfl (.inl rfl)) (XAn.nil))) rfl))
      (XSs.one (XS.ifs (XT.cmp cIsNot (gU 2 rfl (.inl rfl)) (XE.use (gNon)) (nomark _)) (XSs.one (gNever)) (XSs.nil))))
theorem sc_check_text : FnScope N_check_text ["alphabet", "text"] (defScope s12) := ⟨rfl, rfl, rfl, by decide +kernel, rfl, by decide +kernel, by decide +kernel⟩
theorem fn_check_text (G : Gs K mg) (F_check_alphabet : FnD P w K mg base "check_alphabet" 2 1 [] φ_check_alphabet) (F_first_stranger : FnD P w K mg base "first_stranger" 1 2 [] φ_first_stranger) {f : Addr} {fd : FuncData} (F : FunD K "check_text" "check_text" (defArgs s12) (defBody s12) (defScope s12) [] [] f fd) (hg : mg "check_text" = some (.ref f)) : FnD P w K mg base "check_text" 3 2 [] φ_check_text :=
  FnD.pos F sc_check_text rfl hg (fun _ _ _ _ _ _ us hl => match us, hl with | [_, _], _ => rfl) (fun cdv A outer s H E hr => xs_check_text G F_check_alphabet F_first_stranger _ cdv A outer s H E hr)
theorem xs_undoings_of (G : Gs K mg) (f : Addr) (cdv : Value) (A : Around) (outer : List Env) (s : Shared) (H : Hp) (E : XK) (hr : Room 0 (A.deeper (PyProof.Rows.envOfC "undoings_of" (defScope s22) s.heap.objs.size f cdv))) :
    XSs (cxOf CX0 P w K mg base N_undoings_of "undoings_of" (defScope s22) f cdv A outer s H E) (defBody s22) w_undoings_of := by
  have hu64 := hr.units
  have hu65 : (A.deeper (PyProof.Rows.envOfC "undoings_of" (defScope s22) s.heap.objs.size f cdv)).units + 65 < cLine := by have := hr.un; omega
  have hu1 : (A.deeper (PyProof.Rows.envOfC "undoings_of" (defScope s22) s.heap.objs.size f cdv)).units + 1 < cLine := by omega
  have hN : N_undoings_of.Nodup := by decide +kernel
  exact XSs.cons (gSet 2 hN rfl (.inl rfl) (.inl rfl) (XE.lst (XAn.xa (XAn.nil))))
      (XSs.cons (XS.fors (passes_of rfl) rfl (XI.enum rfl G.b_enumerate (XE.fld G.F_rules (gU 0 rfl (.inl rfl)) rfl)) (gTT (n := 2) rfl (gTC (gTV 3 hN rfl (.inl rfl) (.inl rfl)) (gTC (gTT (n := 2) rfl (gTC (gTV 5 hN rfl (.inl rfl) (.inl rfl)) (gTC (gTV 6 hN rfl (.inl rfl) (.inl rfl)) (XGs.nil)))) (XGs.nil)))) (XSs.one (XS.fors (passes_of rfl) rfl (XI.range1 rfl G.b_range (XE.use (XE.addA (XE.use (XE.sub (XE.use (gLen rfl G.b_len (gU 1 rfl (.inl rfl)))) (XE.use (gLen rfl G.b_len (gU 6 rfl (.inl rfl)))))) (XE.use (gInt))))) (gTV 4 hN rfl (.inl rfl) (.inl rfl)) (XSs.one (XS.ifs (XW.xt (XW.and (XT.cmp cGt (XE.use (gLen rfl G.b_len (gU 6 rfl (.inl rfl)))) (XE.use (gInt)) (nomark _)) (XW.and1 (XT.cmp (cEq hu64) (XE.use (XE.slice (gU 1 rfl (.inl rfl)) (XO.some (gU 4 rfl (.inl rfl))) (XO.some (XE.use (XE.addA (gU 4 rfl (.inl rfl)) (XE.use (gLen rfl G.b_len (gU 6 rfl (.inl rfl))))))))) (gU 6 rfl (.inl rfl)) (nomark _))))) (XSs.one (gApp (i := 2) rfl (.inl rfl) (XE.tup (XAn.xa (XAn.cons (gE 3 rfl (.inl rfl)) (XAn.cons (gE 4 rfl (.inl rfl)) (XAn.cons (XE.addA (XE.use (XE.addA (XE.use (XE.slice (gU 1 rfl (.inl rfl)) (XO.none) (XO.some (gU 4 rfl (.inl rfl))))) (gU 5 rfl (.inl rfl)))) (XE.use (XE.slice (gU 1 rfl (.inl rfl)) (XO.some (XE.use (XE.addA (gU 4 rfl (.inl rfl)) (XE.use (gLen rfl G.b_len (gU 6 rfl (.inl rfl))))))) (XO.none)))) (XAn.nil)))))))) (XSs.nil))) (fun _ => rfl))) (fun _ => rfl))
      (XSs.one (XS.retN (pe_var rfl (.inl rfl)))))
theorem sc_undoings_of : FnScope N_undoings_of ["grammar", "form"] (defScope s22) := ⟨rfl, rfl, rfl, by decide +kernel, rfl, by decide +kernel, by decide +kernel⟩
theorem fn_undoings_of (G : Gs K mg) {f : Addr} {fd : FuncData} (F : FunD K "undoings_of" "undoings_of" (defArgs s22) (defBody s22) (defScope s22) [] [] f fd) (hg : mg "undoings_of" = some (.ref f)) : FnD P w K mg base "undoings_of" 1 2 [] φ_undoings_of :=
  FnD.pos F sc_undoings_of rfl hg (fun _ _ _ _ _ _ us hl => match us, hl with | [_, _], _ => rfl) (fun cdv A outer s H E hr => xs_undoings_of G  _ cdv A outer s H E hr)
theorem xs_found_origins (G : Gs K mg) (F_undoings_of : FnD P w K mg base "undoings_of" 1 2 [] φ_undoings_of) (f : Addr) (cdv : Value) (A : Around) (outer : List Env) (s : Shared) (H : Hp) (E : XK) (hr : Room 1 (A.deeper (PyProof.Rows.envOfC "found_origins" (defScope s24) s.heap.objs.size f cdv))) :
    XSs (cxOf CX0 P w K mg base N_found_origins "found_origins" (defScope s24) f cdv A outer s H E) (defBody s24) w_found_origins := by
  have hu64 := hr.units
  have hu65 : (A.deeper (PyProof.Rows.envOfC "found_origins" (defScope s24) s.heap.objs.size f cdv)).units + 65 < cLine := by have := hr.un; omega
  have hu1 : (A.deeper (PyProof.Rows.envOfC "found_origins" (defScope s24) s.heap.objs.size f cdv)).units + 1 < cLine := by omega
  have hN : N_found_origins.Nodup := by decide +kernel
  exact XSs.cons (gSet 3 hN rfl (.inl rfl) (.inl rfl) (gTuple rfl G.b_tuple (XE.use (gLc hN rfl (own := [("letter", 10)]) (XI.any (gE 1 rfl (.inl rfl))) (blkOk (by kernel_rfl)) (by decide) (fun _ _ _ _ _ => gTV 10 hN rfl (.inl (by kernel_rfl)) (.inr (by kernel_rfl))) (fun _ _ _ _ _ => XTs.nil) (fun _ _ _ _ _ => gE 10 rfl (.inl (by kernel_rfl)))))))
      (XSs.cons (gSet 4 hN rfl (.inl rfl) (.inl rfl) (XE.lst (XAn.xa (XAn.cons (gE 3 rfl (.inl rfl)) (XAn.nil)))))
      (XSs.cons (gSet 5 hN rfl (.inl rfl) (.inl rfl) (XE.dispT hu1 (gU 3 rfl (.inl rfl)) (gNon)))
      (XSs.cons (gSet 6 hN rfl (.inl rfl) (.inl rfl) (gInt))
      (XSs.cons (XS.whiles (passes_of rfl) (XW.xt (XW.and (XT.cmp cLt (gU 6 rfl (.inl rfl)) (XE.use (gLen rfl G.b_len (gU 4 rfl (.inl rfl)))) (nomark _)) (XW.and1 (XT.cmp (cNe hu64) (gU 1 rfl (.inl rfl)) (XE.use (gStr)) (nomark _))))) (XSs.cons (XS.fors (passes_of rfl) rfl (XI.any (XE.call F_undoings_of (hr.mono (by decide)) rfl (XAn.cons (gE 0 rfl (.inl rfl)) (XAn.cons (XE.ix hu1 (gU 4 rfl (.inl rfl)) (gU 6 rfl (.inl rfl)) (fun _ _ => rfl)) (XAn.nil))) rfl)) (gTT (n := 3) rfl (gTC (gTV 7 hN rfl (.inl rfl) (.inl rfl)) (gTC (gTV 8 hN rfl (.inl rfl) (.inl rfl)) (gTC (gTV 9 hN rfl (.inl rfl) (.inl rfl)) (XGs.nil))))) (XSs.one (XS.ifs (XT.cmp (cNotInA hu65) (gU 9 rfl (.inl rfl)) (gU 5 rfl (.inl rfl)) (by with_unfolding_all rfl)) (XSs.cons (XS.ifs (XT.cmp cGeA (XE.use (gLen rfl G.b_len (gU 4 rfl (.inl rfl)))) (gU 2 rfl (.inl rfl)) (nomark _)) (XSs.one (gNever)) (XSs.nil))
            (XSs.cons (gPut (i := 5) hu1 rfl (.inl rfl) (gU 9 rfl (.inl rfl)) (XE.tup (XAn.xa (XAn.cons (XE.ix hu1 (gU 4 rfl (.inl rfl)) (gU 6 rfl (.inl rfl)) (fun _ _ => rfl)) (XAn.cons (gE 7 rfl (.inl rfl)) (XAn.cons (gE 8 rfl (.inl rfl)) (XAn.nil)))))))
            (XSs.one (gApp (i := 4) rfl (.inl rfl) (gE 9 rfl (.inl rfl)))))) (XSs.nil))) (fun _ => rfl))
        (XSs.one (gAug (i := 6) ip_add hN rfl (.inl rfl) (.inl rfl) (XE.use (gInt))))))
      (XSs.one (XS.ret (XE.tup (XAn.xa (XAn.cons (gE 4 rfl (.inl rfl)) (XAn.cons (gE 5 rfl (.inl rfl)) (XAn.nil)))))))))))
theorem sc_found_origins : FnScope N_found_origins ["grammar", "text", "limit"] (defScope s24) := ⟨rfl, rfl, rfl, by decide +kernel, rfl, by decide +kernel, by decide +kernel⟩
theorem fn_found_origins (G : Gs K mg) (F_undoings_of : FnD P w K mg base "undoings_of" 1 2 [] φ_undoings_of) {f : Addr} {fd : FuncData} (F : FunD K "found_origins" "found_origins" (defArgs s24) (defBody s24) (defScope s24) [] [] f fd) (hg : mg "found_origins" = some (.ref f)) : FnD P w K mg base "found_origins" 2 3 [] φ_found_origins :=
  FnD.pos F sc_found_origins rfl hg (fun _ _ _ _ _ _ us hl => match us, hl with | [_, _, _], _ => rfl) (fun cdv A outer s H E hr => xs_found_origins G F_undoings_of _ cdv A outer s H E hr)
theorem xs_empty_rules (G : Gs K mg) (f : Addr) (cdv : Value) (A : Around) (outer : List Env) (s : Shared) (H : Hp) (E : XK) (hr : Room 0 (A.deeper (PyProof.Rows.envOfC "empty_rules" (defScope s23) s.heap.objs.size f cdv))) :
    XSs (cxOf CX0 P w K mg base N_empty_rules "empty_rules" (defScope s23) f cdv A outer s H E) (defBody s23) w_empty_rules := by
  have hu64 := hr.units
  have hu65 : (A.deeper (PyProof.Rows.envOfC "empty_rules" (defScope s23) s.heap.objs.size f cdv)).units + 65 < cLine := by have := hr.un; omega
  have hu1 : (A.deeper (PyProof.Rows.envOfC "empty_rules" (defScope s23) s.heap.objs.size f cdv)).units + 1 < cLine := by omega
  have hN : N_empty_rules.Nodup := by decide +kernel
  exact XSs.one (XS.ret (gLc hN rfl (own := [("number", 1), ("rule", 2)]) (XI.enum rfl G.b_enumerate (XE.fld G.F_rules (gU 0 rfl (.inl rfl)) rfl)) (blkOk (by kernel_rfl)) (by decide) (fun _ _ _ _ _ => gTT (n := 2) rfl (gTC (gTV 1 hN rfl (.inl (by kernel_rfl)) (.inr (by kernel_rfl))) (gTC (gTV 2 hN rfl (.inl (by kernel_rfl)) (.inr (by kernel_rfl))) (XGs.nil)))) (fun _ _ _ _ _ => XTs.one (XT.cmp (cEq hu64) (gU 2 rfl (.inl (by kernel_rfl))) (XE.use (XE.tup (XAn.xa (XAn.cons (gGlo rfl G.c_START_FORM (fun _ _ => .tupK G.s_START_FORM (.cons (.int _) .nil))) (XAn.cons (XE.tup (XAn.xa (XAn.nil))) (XAn.nil)))))) (nomark _))) (fun _ _ _ _ _ => gE 1 rfl (.inl (by kernel_rfl)))))
theorem sc_empty_rules : FnScope N_empty_rules ["grammar"] (defScope s23) := ⟨rfl, rfl, rfl, by decide +kernel, rfl, by decide +kernel, by decide +kernel⟩
theorem fn_empty_rules (G : Gs K mg) {f : Addr} {fd : FuncData} (F : FunD K "empty_rules" "empty_rules" (defArgs s23) (defBody s23) (defScope s23) [] [] f fd) (hg : mg "empty_rules" = some (.ref f)) : FnD P w K mg base "empty_rules" 1 1 [] φ_empty_rules :=
  FnD.pos F sc_empty_rules rfl hg (fun _ _ _ _ _ _ us hl => match us, hl with | [_], _ => rfl) (fun cdv A outer s H E hr => xs_empty_rules G  _ cdv A outer s H E hr)
theorem xs_count_derivations (G : Gs K mg) (F_check_kind : FnD P w K mg base "check_kind" 4 2 [] φ_check_kind) (F_check_text : FnD P w K mg base "check_text" 3 2 [] φ_check_text) (F_found_origins : FnD P w K mg base "found_origins" 2 3 [] φ_found_origins) (F_empty_rules : FnD P w K mg base "empty_rules" 1 1 [] φ_empty_rules) (F_undoings_of : FnD P w K mg base "undoings_of" 1 2 [] φ_undoings_of) (f : Addr) (cdv : Value) (A : Around) (outer : List Env) (s : Shared) (H : Hp) (E : XK) (hr : Room 4 (A.deeper (PyProof.Rows.envOfC "count_derivations" (defScope s25) s.heap.objs.size f cdv))) :
    XSs (cxOf CX0 P w K mg base N_count_derivations "count_derivations" (defScope s25) f cdv A outer s H E) (defBody s25) w_count_derivations := by
  have hu64 := hr.units
  have hu65 : (A.deeper (PyProof.Rows.envOfC "count_derivations" (defScope s25) s.heap.objs.size f cdv)).units + 65 < cLine := by have := hr.un; omega
  have hu1 : (A.deeper (PyProof.Rows.envOfC "count_derivations" (defScope s25) s.heap.objs.size f cdv)).units + 1 < cLine := by omega
  have hN : N_count_derivations.Nodup := by decide +kernel
  exact XSs.cons (gDrop (XE.call F_check_kind (hr.mono (by decide)) rfl (XAn.cons (gE 0 rfl (.inr (.inl rfl))) (XAn.cons (gInt) (XAn.nil))) rfl))
      (XSs.cons (gDrop (XE.call F_check_text (hr.mono (by decide)) rfl (XAn.cons (XE.fld G.F_alphabet (gU 0 rfl (.inr (.inl rfl))) rfl) (XAn.cons (gE 1 rfl (.inl rfl)) (XAn.nil))) rfl))
      (XSs.cons (XS.ifs (XT.cmp (cEq hu64) (gU 1 rfl (.inl rfl)) (XE.use (gStr)) (nomark _)) (XSs.one (XS.ret (XE.ifx (XT.cmp cGt (gU 2 rfl (.inl rfl)) (XE.use (gInt)) (nomark _)) (gLen rfl G.b_len (XE.use (XE.call F_empty_rules (hr.mono (by decide)) rfl (XAn.cons (gE 0 rfl (.inr (.inl rfl))) (XAn.nil)) rfl))) (gInt)))) (XSs.nil))
      (XSs.cons (gSet 4 hN rfl (.inl rfl) (.inl rfl) (XE.ix hu1 (XE.use (XE.call F_found_origins (hr.mono (by decide)) rfl (XAn.cons (gE 0 rfl (.inr (.inl rfl))) (XAn.cons (gE 1 rfl (.inl rfl)) (XAn.cons (gE 3 rfl (.inl rfl)) (XAn.nil)))) rfl)) (XE.use (gInt)) (fun _ _ => rfl)))
      (XSs.cons (gSetDc 5 hu1 hN rfl rfl rfl (own := [("form", 10)]) (XI.any (gE 4 rfl (.inl rfl))) (blkOk (by kernel_rfl)) (by decide) (fun _ _ _ _ _ => gTV 10 hN rfl (.inl (by kernel_rfl)) (.inr (by kernel_rfl))) (fun _ _ _ _ _ => XTs.nil) (fun _ _ _ _ _ => gU 10 rfl (.inl (by kernel_rfl))) (fun _ _ _ _ _ => gLc hN rfl (own := [("number", 12), ("place", 13), ("before", 11)]) (XI.any (XE.call F_undoings_of (hr.mono (by decide)) rfl (XAn.cons (gE 0 rfl (.inr (.inl (by kernel_rfl)))) (XAn.cons (gE 10 rfl (.inl (by kernel_rfl))) (XAn.nil))) rfl)) (blkOk (by kernel_rfl)) (by decide) (fun _ _ _ _ _ => gTT (n := 3) rfl (gTC (gTV 12 hN rfl (.inl (by kernel_rfl)) (.inr (by kernel_rfl))) (gTC (gTV 13 hN rfl (.inl (by kernel_rfl)) (.inr (by kernel_rfl))) (gTC (gTV 11 hN rfl (.inl (by kernel_rfl)) (.inr (by kernel_rfl))) (XGs.nil))))) (fun _ _ _ _ _ => XTs.nil) (fun _ _ _ _ _ => gE 11 rfl (.inl (by kernel_rfl)))))
      (XSs.cons (gSetDc 6 hu1 hN rfl rfl rfl (own := [("form", 10)]) (XI.any (gE 4 rfl (.inl rfl))) (blkOk (by kernel_rfl)) (by decide) (fun _ _ _ _ _ => gTV 10 hN rfl (.inl (by kernel_rfl)) (.inr (by kernel_rfl))) (fun _ _ _ _ _ => XTs.nil) (fun _ _ _ _ _ => gU 10 rfl (.inl (by kernel_rfl))) (fun _ _ _ _ _ => gInt))
      (XSs.cons (gPut (i := 6) hu1 rfl (.inl rfl) (XE.use (XE.ix hu1 (gU 4 rfl (.inl rfl)) (XE.use (gInt)) (fun _ _ => rfl))) (gInt))
      (XSs.cons (gSet 7 hN rfl (.inl rfl) (.inl rfl) (gInt))
      (XSs.cons (XS.fors (passes_of rfl) rfl (XI.range1 rfl G.b_range (gU 2 rfl (.inl rfl))) (gTV 8 hN rfl (.inl rfl) (.inl rfl)) (XSs.cons (gSetDc 9 hu1 hN rfl rfl rfl (own := [("form", 10)]) (XI.any (gE 4 rfl (.inl rfl))) (blkOk (by kernel_rfl)) (by decide) (fun _ _ _ _ _ => gTV 10 hN rfl (.inl (by kernel_rfl)) (.inr (by kernel_rfl))) (fun _ _ _ _ _ => XTs.nil) (fun _ _ _ _ _ => gU 10 rfl (.inl (by kernel_rfl))) (fun _ _ _ _ _ => gInt))
        (XSs.cons (XS.fors (passes_of rfl) rfl (XI.any (gE 4 rfl (.inl rfl))) (gTV 10 hN rfl (.inl rfl) (.inl rfl)) (XSs.one (XS.fors (passes_of rfl) rfl (XI.any (XE.ix hu1 (gU 5 rfl (.inl rfl)) (gU 10 rfl (.inl rfl)) (fun _ _ => rfl))) (gTV 11 hN rfl (.inl rfl) (.inl rfl)) (XSs.one (gPut (i := 9) hu1 rfl (.inl rfl) (gU 11 rfl (.inl rfl)) (XE.addA (XE.use (XE.ix hu1 (gU 9 rfl (.inl rfl)) (gU 11 rfl (.inl rfl)) (fun _ _ => rfl))) (XE.use (XE.ix hu1 (gU 6 rfl (.inl rfl)) (gU 10 rfl (.inl rfl)) (fun _ _ => rfl)))))) (fun _ => rfl))) (fun _ => rfl))
        (XSs.cons (gSet 6 hN rfl (.inl rfl) (.inl rfl) (gE 9 rfl (.inl rfl)))
        (XSs.one (gSet 7 hN rfl (.inl rfl) (.inl rfl) (XE.addA (gU 7 rfl (.inl rfl)) (XE.use (XE.get2 hu1 (gU 6 rfl (.inl rfl)) (XE.use (gGlo rfl G.c_START_FORM (fun _ _ => .tupK G.s_START_FORM (.cons (.int _) .nil)))) (gInt) ⟨rfl, rfl, rfl, rfl⟩)))))))) (fun _ => rfl))
      (XSs.one (XS.retN (pe_var rfl (.inl rfl))))))))))))
theorem sc_count_derivations : FnScope N_count_derivations ["grammar", "text", "steps", "limit"] (defScope s25) := ⟨rfl, rfl, rfl, by decide +kernel, rfl, by decide +kernel, by decide +kernel⟩
theorem fn_count_derivations (G : Gs K mg) (F_check_kind : FnD P w K mg base "check_kind" 4 2 [] φ_check_kind) (F_check_text : FnD P w K mg base "check_text" 3 2 [] φ_check_text) (F_found_origins : FnD P w K mg base "found_origins" 2 3 [] φ_found_origins) (F_empty_rules : FnD P w K mg base "empty_rules" 1 1 [] φ_empty_rules) (F_undoings_of : FnD P w K mg base "undoings_of" 1 2 [] φ_undoings_of) {f : Addr} {fd : FuncData} (F : FunD K "count_derivations" "count_derivations" (defArgs s25) (defBody s25) (defScope s25) [] [("limit", .int 20000)] f fd) (hg : mg "count_derivations" = some (.ref f)) : FnD P w K mg base "count_derivations" 5 4 [(.int 20000)] φ_count_derivations :=
  FnD.kw [(.int 20000)] F sc_count_derivations rfl hg 3 (by simp) rfl (fun D doc pm an cdv ct us ks h1 h2 => match us, ks, h1, h2 with | [_, _, _], [_], _, _ => ⟨_, _, _, _, _, _, rfl, rfl, rfl⟩) (fun _ _ => .cons (.int _) .nil) (fun cdv A outer s H E hr => xs_count_derivations G F_check_kind F_check_text F_found_origins F_empty_rules F_undoings_of _ cdv A outer s H E hr)
theorem xs__law_cell (G : Gs K mg) (f : Addr) (cdv : Value) (A : Around) (outer : List Env) (s : Shared) (H : Hp) (E : XK) (hr : Room 0 (A.deeper (PyProof.Rows.envOfC "_law_cell" (defScope s30) s.heap.objs.size f cdv))) :
    XSs (cxOf CX0 P w K mg base N__law_cell "_law_cell" (defScope s30) f cdv A outer s H E) (defBody s30) w__law_cell := by
  have hu64 := hr.units
  have hu65 : (A.deeper (PyProof.Rows.envOfC "_law_cell" (defScope s30) s.heap.objs.size f cdv)).units + 65 < cLine := by have := hr.un; omega
  have hu1 : (A.deeper (PyProof.Rows.envOfC "_law_cell" (defScope s30) s.heap.objs.size f cdv)).units + 1 < cLine := by omega
  have hN : N__law_cell.Nodup := by decide +kernel
  exact XSs.cons (XS.ifs (XT.cmp cLt (gU 1 rfl (.inl rfl)) (XE.use (gLen rfl G.b_len (gU 0 rfl (.inl rfl)))) (nomark _)) (XSs.one (XS.ret (XE.ix hu1 (gU 0 rfl (.inl rfl)) (gU 1 rfl (.inl rfl)) (fun _ _ => rfl)))) (XSs.nil))
      (XSs.cons (gSet 2 hN rfl (.inl rfl) (.inl rfl) (gInt))
      (XSs.cons (XS.fors (passes_of rfl) rfl (XI.any (gE 0 rfl (.inl rfl))) (gTV 3 hN rfl (.inl rfl) (.inl rfl)) (XSs.one (gSet 2 hN rfl (.inl rfl) (.inl rfl) (XE.mod (XE.use (gCInt rfl G.b_int (XE.use (XE.addA (XE.use (XE.mulA (gU 2 rfl (.inl rfl)) (XE.use (gInt)))) (XE.use (XE.mod (XE.use (gCInt rfl G.b_int (gU 3 rfl (.inl rfl)))) (XE.use (gInt)))))))) (XE.use (gInt))))) (fun _ => rfl))
      (XSs.one (XS.ret (XE.mod (XE.use (gCInt rfl G.b_int (XE.use (XE.mulA (XE.use (XE.mulA (XE.use (XE.addA (gU 2 rfl (.inl rfl)) (XE.use (gInt)))) (XE.use (XE.addA (gU 1 rfl (.inl rfl)) (XE.use (gInt)))))) (XE.use (gInt)))))) (XE.use (gInt)))))))
theorem sc__law_cell : FnScope N__law_cell ["script", "k"] (defScope s30) := ⟨rfl, rfl, rfl, by decide +kernel, rfl, by decide +kernel, by decide +kernel⟩
theorem fn__law_cell (G : Gs K mg) {f : Addr} {fd : FuncData} (F : FunD K "_law_cell" "_law_cell" (defArgs s30) (defBody s30) (defScope s30) [] [] f fd) (hg : mg "_law_cell" = some (.ref f)) : FnD P w K mg base "_law_cell" 1 2 [] φ__law_cell :=
  FnD.pos F sc__law_cell rfl hg (fun _ _ _ _ _ _ us hl => match us, hl with | [_, _], _ => rfl) (fun cdv A outer s H E hr => xs__law_cell G  _ cdv A outer s H E hr)
theorem xs__law_whole (G : Gs K mg) (f : Addr) (cdv : Value) (A : Around) (outer : List Env) (s : Shared) (H : Hp) (E : XK) (hr : Room 0 (A.deeper (PyProof.Rows.envOfC "_law_whole" (defScope s29) s.heap.objs.size f cdv))) :
    XSs (cxOf CX0 P w K mg base N__law_whole "_law_whole" (defScope s29) f cdv A outer s H E) (defBody s29) w__law_whole := by
  have hu64 := hr.units
  have hu65 : (A.deeper (PyProof.Rows.envOfC "_law_whole" (defScope s29) s.heap.objs.size f cdv)).units + 65 < cLine := by have := hr.un; omega
  have hu1 : (A.deeper (PyProof.Rows.envOfC "_law_whole" (defScope s29) s.heap.objs.size f cdv)).units + 1 < cLine := by omega
  have hN : N__law_whole.Nodup := by decide +kernel
  exact XSs.one (XS.ret (XE.and (gIsA .int rfl rfl G.b_isinstance rfl G.b_int (gU 0 rfl (.inl rfl))) (XE.one (XE.not (gIsA .bool rfl rfl G.b_isinstance rfl G.b_bool (gU 0 rfl (.inl rfl)))))))
theorem sc__law_whole : FnScope N__law_whole ["value"] (defScope s29) := ⟨rfl, rfl, rfl, by decide +kernel, rfl, by decide +kernel, by decide +kernel⟩
theorem fn__law_whole (G : Gs K mg) {f : Addr} {fd : FuncData} (F : FunD K "_law_whole" "_law_whole" (defArgs s29) (defBody s29) (defScope s29) [] [] f fd) (hg : mg "_law_whole" = some (.ref f)) : FnD P w K mg base "_law_whole" 1 1 [] φ__law_whole :=
  FnD.pos F sc__law_whole rfl hg (fun _ _ _ _ _ _ us hl => match us, hl with | [_], _ => rfl) (fun cdv A outer s H E hr => xs__law_whole G  _ cdv A outer s H E hr)
theorem xs_check_order (G : Gs K mg) (F_is_whole : FnD P w K mg base "is_whole" 1 1 [] φ_is_whole) (f : Addr) (cdv : Value) (A : Around) (outer : List Env) (s : Shared) (H : Hp) (E : XK) (hr : Room 1 (A.deeper (PyProof.Rows.envOfC "check_order" (defScope s26) s.heap.objs.size f cdv))) :
    XSs (cxOf CX0 P w K mg base N_check_order "check_order" (defScope s26) f cdv A outer s H E) (defBody s26) w_check_order := by
  have hu64 := hr.units
  have hu65 : (A.deeper (PyProof.Rows.envOfC "check_order" (defScope s26) s.heap.objs.size f cdv)).units + 65 < cLine := by have := hr.un; omega
  have hu1 : (A.deeper (PyProof.Rows.envOfC "check_order" (defScope s26) s.heap.objs.size f cdv)).units + 1 < cLine := by omega
  have hN : N_check_order.Nodup := by decide +kernel
  exact XSs.cons (XS.ifs (XT.cmp (cNe hu64) (XE.use (gLen rfl G.b_len (gU 0 rfl (.inl rfl)))) (gU 1 rfl (.inl rfl)) (nomark _)) (XSs.one (gNever)) (XSs.nil))
      (XSs.cons (gSet 3 hN rfl (.inl rfl) (.inl rfl) (gD0))
      (XSs.one (XS.fors (passes_of rfl) rfl (XI.enum rfl G.b_enumerate (gE 0 rfl (.inl rfl))) (gTT (n := 2) rfl (gTC (gTV 4 hN rfl (.inl rfl) (.inl rfl)) (gTC (gTV 5 hN rfl (.inl rfl) (.inl rfl)) (XGs.nil)))) (XSs.cons (XS.ifs (XW.xt (XW.or (XT.not (gT (XE.use (XE.call F_is_whole (hr.mono (by decide)) rfl (XAn.cons (gE 5 rfl (.inl rfl)) (XAn.nil)) rfl)))) (XW.or (XT.not (XT.chain cLe cLt (XE.use (gInt)) (gU 5 rfl (.inl rfl)) (gU 1 rfl (.inl rfl)) (by with_unfolding_all rfl))) (XW.or (XT.cmp (cInA hu65) (gU 5 rfl (.inl rfl)) (gU 3 rfl (.inl rfl)) (by with_unfolding_all rfl)) (XW.or1 (XW.xt (XW.and (XT.cmp cLt (gU 4 rfl (.inl rfl)) (gU 2 rfl (.inl rfl)) (nomark _)) (XW.and1 (XT.cmp (cNe hu64) (gU 5 rfl (.inl rfl)) (gU 4 rfl (.inl rfl)) (nomark _)))))))))) (XSs.one (gNever)) (XSs.nil))
        (XSs.one (gPut (i := 3) hu1 rfl (.inl rfl) (gU 5 rfl (.inl rfl)) (gBl)))) (fun _ => rfl))))
theorem sc_check_order : FnScope N_check_order ["order", "many", "kept"] (defScope s26) := ⟨rfl, rfl, rfl, by decide +kernel, rfl, by decide +kernel, by decide +kernel⟩
theorem fn_check_order (G : Gs K mg) (F_is_whole : FnD P w K mg base "is_whole" 1 1 [] φ_is_whole) {f : Addr} {fd : FuncData} (F : FunD K "check_order" "check_order" (defArgs s26) (defBody s26) (defScope s26) [] [] f fd) (hg : mg "check_order" = some (.ref f)) : FnD P w K mg base "check_order" 2 3 [] φ_check_order :=
  FnD.pos F sc_check_order rfl hg (fun _ _ _ _ _ _ us hl => match us, hl with | [_, _, _], _ => rfl) (fun cdv A outer s H E hr => xs_check_order G F_is_whole _ cdv A outer s H E hr)
theorem xs_renamed_symbols (G : Gs K mg) (F_is_variable : FnD P w K mg base "is_variable" 1 1 [] φ_is_variable) (f : Addr) (cdv : Value) (A : Around) (outer : List Env) (s : Shared) (H : Hp) (E : XK) (hr : Room 1 (A.deeper (PyProof.Rows.envOfC "renamed_symbols" (defScope s27) s.heap.objs.size f cdv))) :
    XSs (cxOf CX0 P w K mg base N_renamed_symbols "renamed_symbols" (defScope s27) f cdv A outer s H E) (defBody s27) w_renamed_symbols := by
  have hu64 := hr.units
  have hu65 : (A.deeper (PyProof.Rows.envOfC "renamed_symbols" (defScope s27) s.heap.objs.size f cdv)).units + 65 < cLine := by have := hr.un; omega
  have hu1 : (A.deeper (PyProof.Rows.envOfC "renamed_symbols" (defScope s27) s.heap.objs.size f cdv)).units + 1 < cLine := by omega
  have hN : N_renamed_symbols.Nodup := by decide +kernel
  exact XSs.one (XS.ret (gTuple rfl G.b_tuple (XE.use (gLc hN rfl (own := [("symbol", 2)]) (XI.any (gE 0 rfl (.inl rfl))) (blkOk (by kernel_rfl)) (by decide) (fun _ _ _ _ _ => gTV 2 hN rfl (.inl (by kernel_rfl)) (.inr (by kernel_rfl))) (fun _ _ _ _ _ => XTs.nil) (fun _ _ _ _ _ => XE.ifx (gT (XE.use (XE.call F_is_variable (hr.mono (by decide)) rfl (XAn.cons (gE 2 rfl (.inl (by kernel_rfl))) (XAn.nil)) rfl))) (XE.ix hu1 (gU 1 rfl (.inr (.inl (by kernel_rfl)))) (gU 2 rfl (.inl (by kernel_rfl))) (fun _ _ => rfl)) (gE 2 rfl (.inl (by kernel_rfl))))))))
theorem sc_renamed_symbols : FnScope N_renamed_symbols ["symbols", "order"] (defScope s27) := ⟨rfl, rfl, rfl, by decide +kernel, rfl, by decide +kernel, by decide +kernel⟩
theorem fn_renamed_symbols (G : Gs K mg) (F_is_variable : FnD P w K mg base "is_variable" 1 1 [] φ_is_variable) {f : Addr} {fd : FuncData} (F : FunD K "renamed_symbols" "renamed_symbols" (defArgs s27) (defBody s27) (defScope s27) [] [] f fd) (hg : mg "renamed_symbols" = some (.ref f)) : FnD P w K mg base "renamed_symbols" 2 2 [] φ_renamed_symbols :=
  FnD.pos F sc_renamed_symbols rfl hg (fun _ _ _ _ _ _ us hl => match us, hl with | [_, _], _ => rfl) (fun cdv A outer s H E hr => xs_renamed_symbols G F_is_variable _ cdv A outer s H E hr)
theorem xs_renamed (G : Gs K mg) (F_check_order : FnD P w K mg base "check_order" 2 3 [] φ_check_order) (F_Grammar_init : MkD P w K mg base "Grammar" 4 3 φ_Grammar_init) (F_renamed_symbols : FnD P w K mg base "renamed_symbols" 2 2 [] φ_renamed_symbols) (f : Addr) (cdv : Value) (A : Around) (outer : List Env) (s : Shared) (H : Hp) (E : XK) (hr : Room 5 (A.deeper (PyProof.Rows.envOfC "renamed" (defScope s28) s.heap.objs.size f cdv))) :
    XSs (cxOf CX0 P w K mg base N_renamed "renamed" (defScope s28) f cdv A outer s H E) (defBody s28) w_renamed := by
  have hu64 := hr.units
  have hu65 : (A.deeper (PyProof.Rows.envOfC "renamed" (defScope s28) s.heap.objs.size f cdv)).units + 65 < cLine := by have := hr.un; omega
  have hu1 : (A.deeper (PyProof.Rows.envOfC "renamed" (defScope s28) s.heap.objs.size f cdv)).units + 1 < cLine := by omega
  have hN : N_renamed.Nodup := by decide +kernel
  exact XSs.cons (gDrop (XE.call F_check_order (hr.mono (by decide)) rfl (XAn.cons (gE 1 rfl (.inl rfl)) (XAn.cons (XE.fld G.F_variables (gU 0 rfl (.inl rfl)) rfl) (XAn.cons (gInt) (XAn.nil)))) rfl))
      (XSs.cons (gSet 2 hN rfl (.inl rfl) (.inl rfl) (XE.lst (XAn.xa (XAn.nil))))
      (XSs.cons (XS.fors (passes_of rfl) rfl (XI.any (XE.fld G.F_rules (gU 0 rfl (.inl rfl)) rfl)) (gTT (n := 2) rfl (gTC (gTV 3 hN rfl (.inl rfl) (.inl rfl)) (gTC (gTV 4 hN rfl (.inl rfl) (.inl rfl)) (XGs.nil)))) (XSs.one (gApp (i := 2) rfl (.inl rfl) (XE.tup (XAn.xa (XAn.cons (XE.call F_renamed_symbols (hr.mono (by decide)) rfl (XAn.cons (gE 3 rfl (.inl rfl)) (XAn.cons (gE 1 rfl (.inl rfl)) (XAn.nil))) rfl) (XAn.cons (XE.call F_renamed_symbols (hr.mono (by decide)) rfl (XAn.cons (gE 4 rfl (.inl rfl)) (XAn.cons (gE 1 rfl (.inl rfl)) (XAn.nil))) rfl) (XAn.nil))))))) (fun _ => rfl))
      (XSs.one (XS.ret (XE.make F_Grammar_init (hr.mono (by decide)) rfl (XAn.cons (XE.fld G.F_alphabet (gU 0 rfl (.inl rfl)) rfl) (XAn.cons (XE.fld G.F_variables (gU 0 rfl (.inl rfl)) rfl) (XAn.cons (gE 2 rfl (.inl rfl)) (XAn.nil)))))))))
theorem sc_renamed : FnScope N_renamed ["grammar", "order"] (defScope s28) := ⟨rfl, rfl, rfl, by decide +kernel, rfl, by decide +kernel, by decide +kernel⟩
theorem fn_renamed (G : Gs K mg) (F_check_order : FnD P w K mg base "check_order" 2 3 [] φ_check_order) (F_Grammar_init : MkD P w K mg base "Grammar" 4 3 φ_Grammar_init) (F_renamed_symbols : FnD P w K mg base "renamed_symbols" 2 2 [] φ_renamed_symbols) {f : Addr} {fd : FuncData} (F : FunD K "renamed" "renamed" (defArgs s28) (defBody s28) (defScope s28) [] [] f fd) (hg : mg "renamed" = some (.ref f)) : FnD P w K mg base "renamed" 6 2 [] φ_renamed :=
  FnD.pos F sc_renamed rfl hg (fun _ _ _ _ _ _ us hl => match us, hl with | [_, _], _ => rfl) (fun cdv A outer s H E hr => xs_renamed G F_check_order F_Grammar_init F_renamed_symbols _ cdv A outer s H E hr)
theorem xs_law (G : Gs K mg) (F__law_three : FnD P w K mg base "_law_three" 1 1 [] φ__law_three) (F__law_digits : FnD P w K mg base "_law_digits" 1 2 [] φ__law_digits) (F__law_text_by : FnD P w K mg base "_law_text_by" 2 2 [] φ__law_text_by) (F_Grammar_init : MkD P w K mg base "Grammar" 4 3 φ_Grammar_init) (F__law_counted_rows : FnD P w K mg base "_law_counted_rows" 2 3 [] φ__law_counted_rows) (F_count_derivations : FnD P w K mg base "count_derivations" 5 4 [(.int 20000)] φ_count_derivations) (F__law_cell : FnD P w K mg base "_law_cell" 1 2 [] φ__law_cell) (F__law_text : FnD P w K mg base "_law_text" 1 3 [] φ__law_text) (F__law_whole : FnD P w K mg base "_law_whole" 1 1 [] φ__law_whole) (F_renamed : FnD P w K mg base "renamed" 6 2 [] φ_renamed) (f : Addr) (cdv : Value) (A : Around) (outer : List Env) (s : Shared) (H : Hp) (E : XK) (hr : Room 6 (A.deeper (PyProof.Rows.envOfC "law" (defScope s39) s.heap.objs.size f cdv))) :
    XSs (cxOf CX0 P w K mg base N_law "law" (defScope s39) f cdv A outer s H E) (defBody s39) w_law := by
  have hu64 := hr.units
  have hu65 : (A.deeper (PyProof.Rows.envOfC "law" (defScope s39) s.heap.objs.size f cdv)).units + 65 < cLine := by have := hr.un; omega
  have hu1 : (A.deeper (PyProof.Rows.envOfC "law" (defScope s39) s.heap.objs.size f cdv)).units + 1 < cLine := by omega
  have hN : N_law.Nodup := by decide +kernel
  exact XSs.cons (gSet 1 hN rfl (.inr rfl) (.inl rfl) (XE.call F__law_three (hr.mono (by decide)) rfl (XAn.cons (XE.call F__law_digits (hr.mono (by decide)) rfl (XAn.cons (XE.call F__law_cell (hr.mono (by decide)) rfl (XAn.cons (gE 0 rfl (.inl rfl)) (XAn.cons (gInt) (XAn.nil))) rfl) (XAn.cons (XE.addA (XE.use (XE.lst (XAn.xa (XAn.cons (gInt) (XAn.cons (gInt) (XAn.cons (gInt) (XAn.nil))))))) (XE.use (XE.mulA (XE.use (XE.lst (XAn.xa (XAn.cons (gInt) (XAn.cons (gInt) (XAn.cons (gInt) (XAn.cons (gInt) (XAn.cons (gInt) (XAn.nil))))))))) (XE.use (gInt))))) (XAn.nil))) rfl) (XAn.nil)) rfl))
      (XSs.cons (gSet 2 hN rfl (.inl rfl) (.inl rfl) (XE.call F__law_digits (hr.mono (by decide)) rfl (XAn.cons (XE.call F__law_cell (hr.mono (by decide)) rfl (XAn.cons (gE 0 rfl (.inl rfl)) (XAn.cons (gInt) (XAn.nil))) rfl) (XAn.cons (XE.addA (XE.use (XE.mulA (XE.use (XE.lst (XAn.xa (XAn.cons (gInt) (XAn.nil))))) (XE.use (gInt)))) (XE.use (XE.lst (XAn.xa (XAn.cons (gInt) (XAn.cons (gInt) (XAn.cons (gInt) (XAn.nil)))))))) (XAn.nil))) rfl))
      (XSs.cons (gSet 3 hN rfl (.inl rfl) (.inl rfl) (gList rfl G.b_list (XE.use (XE.ix hu1 (gU 1 rfl (.inr (.inl rfl))) (XE.use (gInt)) (fun _ _ => rfl)))))
      (XSs.cons (XS.ifs (XT.cmp (cEq hu64) (XE.use (XE.ix hu1 (gU 2 rfl (.inl rfl)) (XE.use (gInt)) (fun _ _ => rfl))) (XE.use (gInt)) (nomark _)) (XSs.one (gApp (i := 3) rfl (.inl rfl) (XE.ix hu1 (gU 3 rfl (.inl rfl)) (XE.use (XE.mod (XE.use (gCInt rfl G.b_int (XE.use (XE.ix hu1 (gU 2 rfl (.inl rfl)) (XE.use (gInt)) (fun _ _ => rfl))))) (XE.use (gLen rfl G.b_len (gU 3 rfl (.inl rfl)))))) (fun _ _ => rfl)))) (XSs.nil))
      (XSs.cons (gSet 4 hN rfl (.inl rfl) (.inl rfl) (XE.call F__law_text_by (hr.mono (by decide)) rfl (XAn.cons (XE.lst (XAn.xa (XAn.cons (XE.ix hu1 (gU 1 rfl (.inr (.inl rfl))) (XE.use (gInt)) (fun _ _ => rfl)) (XAn.cons (XE.ix hu1 (gU 1 rfl (.inr (.inl rfl))) (XE.use (gInt)) (fun _ _ => rfl)) (XAn.cons (gE 3 rfl (.inl rfl)) (XAn.nil)))))) (XAn.cons (gE 2 rfl (.inl rfl)) (XAn.nil))) rfl))
      (XSs.cons (XS.ifs (XT.cmp (cEq hu64) (XE.use (XE.mod (XE.use (gCInt rfl G.b_int (XE.use (XE.call F__law_cell (hr.mono (by decide)) rfl (XAn.cons (gE 0 rfl (.inl rfl)) (XAn.cons (gInt) (XAn.nil))) rfl)))) (XE.use (gInt)))) (XE.use (gInt)) (nomark _)) (XSs.one (gSet 4 hN rfl (.inl rfl) (.inl rfl) (XE.call F__law_text (hr.mono (by decide)) rfl (XAn.cons (XE.ix hu1 (gU 1 rfl (.inr (.inl rfl))) (XE.use (gInt)) (fun _ _ => rfl)) (XAn.cons (gE 2 rfl (.inl rfl)) (XAn.cons (XE.addA (XE.use (gInt)) (XE.use (XE.mod (XE.use (gCInt rfl G.b_int (XE.use (XE.ix hu1 (gU 2 rfl (.inl rfl)) (XE.use (gInt)) (fun _ _ => rfl))))) (XE.use (gInt))))) (XAn.nil)))) rfl))) (XSs.nil))
      (XSs.cons (gSet 5 hN rfl (.inl rfl) (.inl rfl) (XE.make F_Grammar_init (hr.mono (by decide)) rfl (XAn.cons (XE.ix hu1 (gU 1 rfl (.inr (.inl rfl))) (XE.use (gInt)) (fun _ _ => rfl)) (XAn.cons (XE.ix hu1 (gU 1 rfl (.inr (.inl rfl))) (XE.use (gInt)) (fun _ _ => rfl)) (XAn.cons (gE 3 rfl (.inl rfl)) (XAn.nil))))))
      (XSs.cons (gSet 6 hN rfl (.inl rfl) (.inl rfl) (gCInt rfl G.b_int (XE.use (XE.ix hu1 (gU 2 rfl (.inl rfl)) (XE.use (gInt)) (fun _ _ => rfl)))))
      (XSs.cons (gSet 7 hN rfl (.inl rfl) (.inl rfl) (XE.call F__law_counted_rows (hr.mono (by decide)) rfl (XAn.cons (gE 3 rfl (.inl rfl)) (XAn.cons (gE 4 rfl (.inl rfl)) (XAn.cons (gE 6 rfl (.inl rfl)) (XAn.nil)))) rfl))
      (XSs.cons (gSet 8 hN rfl (.inl rfl) (.inl rfl) (XE.call F_count_derivations (hr.mono (by decide)) rfl (XAn.cons (gE 5 rfl (.inl rfl)) (XAn.cons (gE 4 rfl (.inl rfl)) (XAn.cons (gE 6 rfl (.inl rfl)) (XAn.nil)))) rfl))
      (XSs.cons (XS.ifs (XW.xt (XW.or (XT.not (gT (XE.use (XE.call F__law_whole (hr.mono (by decide)) rfl (XAn.cons (gE 8 rfl (.inl rfl)) (XAn.nil)) rfl)))) (XW.or (XT.cmp (cNe hu64) (gU 8 rfl (.inl rfl)) (gU 7 rfl (.inl rfl)) (nomark _)) (XW.or1 (XT.cmp cLt (XE.use (XE.call F_count_derivations (hr.mono (by decide)) rfl (XAn.cons (gE 5 rfl (.inl rfl)) (XAn.cons (gE 4 rfl (.inl rfl)) (XAn.cons (XE.addA (gU 6 rfl (.inl rfl)) (XE.use (gInt))) (XAn.nil)))) rfl)) (gU 7 rfl (.inl rfl)) (nomark _)))))) (XSs.one (XS.ret (gBl))) (XSs.nil))
      (XSs.cons (gSet 9 hN rfl (.inl rfl) (.inl rfl) (XE.addA (XE.use (XE.lst (XAn.xa (XAn.cons (gInt) (XAn.nil))))) (XE.use (gLc hN rfl (own := [("k", 13)]) (XI.range2 rfl G.b_range (XE.use (gInt)) (XE.use (XE.ix hu1 (gU 1 rfl (.inr (.inl rfl))) (XE.use (gInt)) (fun _ _ => rfl)))) (blkOk (by kernel_rfl)) (by decide) (fun _ _ _ _ _ => gTV 13 hN rfl (.inl (by kernel_rfl)) (.inr (by kernel_rfl))) (fun _ _ _ _ _ => XTs.nil) (fun _ _ _ _ _ => XE.sub (XE.use (XE.ix hu1 (gU 1 rfl (.inr (.inl (by kernel_rfl)))) (XE.use (gInt)) (fun _ _ => rfl))) (gU 13 rfl (.inl (by kernel_rfl))))))))
      (XSs.cons (XS.ifs (XT.cmp (cNe hu64) (XE.use (XE.call F_count_derivations (hr.mono (by decide)) rfl (XAn.cons (XE.call F_renamed (hr.mono (by decide)) rfl (XAn.cons (gE 5 rfl (.inl rfl)) (XAn.cons (gE 9 rfl (.inl rfl)) (XAn.nil))) rfl) (XAn.cons (gE 4 rfl (.inl rfl)) (XAn.cons (gE 6 rfl (.inl rfl)) (XAn.nil)))) rfl)) (gU 7 rfl (.inl rfl)) (nomark _)) (XSs.one (XS.ret (gBl))) (XSs.nil))
      (XSs.cons (gSet 10 hN rfl (.inl rfl) (.inl rfl) (gLen rfl G.b_len (XE.use (gLc hN rfl (own := [("rule", 14)]) (XI.any (gE 3 rfl (.inl rfl))) (blkOk (by kernel_rfl)) (by decide) (fun _ _ _ _ _ => gTV 14 hN rfl (.inl (by kernel_rfl)) (.inr (by kernel_rfl))) (fun _ _ _ _ _ => XTs.one (XT.cmp (cEq hu64) (gU 14 rfl (.inl (by kernel_rfl))) (XE.use (XE.tup (XAn.xa (XAn.cons (XE.tup (XAn.xa (XAn.cons (gInt) (XAn.nil)))) (XAn.cons (XE.tup (XAn.xa (XAn.nil))) (XAn.nil)))))) (nomark _))) (fun _ _ _ _ _ => gE 14 rfl (.inl (by kernel_rfl)))))))
      (XSs.cons (XS.ifs (XW.xt (XW.or (XT.cmp (cNe hu64) (XE.use (XE.call F_count_derivations (hr.mono (by decide)) rfl (XAn.cons (gE 5 rfl (.inl rfl)) (XAn.cons (gStr) (XAn.cons (XE.addA (XE.use (gInt)) (gU 6 rfl (.inl rfl))) (XAn.nil)))) rfl)) (gU 10 rfl (.inl rfl)) (nomark _)) (XW.or1 (XT.cmp (cNe hu64) (XE.use (XE.call F_count_derivations (hr.mono (by decide)) rfl (XAn.cons (gE 5 rfl (.inl rfl)) (XAn.cons (gStr) (XAn.cons (gInt) (XAn.nil)))) rfl)) (XE.use (gInt)) (nomark _))))) (XSs.one (XS.ret (gBl))) (XSs.nil))
      (XSs.cons (XS.ifs (XT.cmp (cNe hu64) (XE.use (XE.call F_count_derivations (hr.mono (by decide)) rfl (XAn.cons (gE 5 rfl (.inl rfl)) (XAn.cons (gE 4 rfl (.inl rfl)) (XAn.cons (gInt) (XAn.nil)))) rfl)) (XE.use (gInt)) (nomark _)) (XSs.one (XS.ret (gBl))) (XSs.nil))
      (XSs.cons (XS.ifs (XT.cmp cGt (XE.use (gLen rfl G.b_len (gU 4 rfl (.inl rfl)))) (XE.use (gInt)) (nomark _)) (XSs.cons (gSet 11 hN rfl (.inl rfl) (.inl rfl) (XE.make F_Grammar_init (hr.mono (by decide)) rfl (XAn.cons (XE.ix hu1 (gU 1 rfl (.inr (.inl rfl))) (XE.use (gInt)) (fun _ _ => rfl)) (XAn.cons (XE.ix hu1 (gU 1 rfl (.inr (.inl rfl))) (XE.use (gInt)) (fun _ _ => rfl)) (XAn.cons (XE.addA (gU 3 rfl (.inl rfl)) (XE.use (XE.lst (XAn.xa (XAn.cons (XE.tup (XAn.xa (XAn.cons (XE.tup (XAn.xa (XAn.cons (gInt) (XAn.nil)))) (XAn.cons (XE.tup (XAn.xa (XAn.cons (XE.ix hu1 (gU 4 rfl (.inl rfl)) (XE.use (gInt)) (fun _ _ => rfl)) (XAn.nil)))) (XAn.nil))))) (XAn.nil)))))) (XAn.nil))))))
        (XSs.cons (gSet 12 hN rfl (.inl rfl) (.inl rfl) (XE.call F__law_counted_rows (hr.mono (by decide)) rfl (XAn.cons (XE.addA (gU 3 rfl (.inl rfl)) (XE.use (XE.lst (XAn.xa (XAn.cons (XE.tup (XAn.xa (XAn.cons (XE.tup (XAn.xa (XAn.cons (gInt) (XAn.nil)))) (XAn.cons (XE.tup (XAn.xa (XAn.cons (XE.ix hu1 (gU 4 rfl (.inl rfl)) (XE.use (gInt)) (fun _ _ => rfl)) (XAn.nil)))) (XAn.nil))))) (XAn.nil)))))) (XAn.cons (gE 4 rfl (.inl rfl)) (XAn.cons (gE 6 rfl (.inl rfl)) (XAn.nil)))) rfl))
        (XSs.one (XS.ret (XE.and (XE.cmp (cEq hu64) (XE.use (XE.call F_count_derivations (hr.mono (by decide)) rfl (XAn.cons (gE 11 rfl (.inl rfl)) (XAn.cons (gE 4 rfl (.inl rfl)) (XAn.cons (gE 6 rfl (.inl rfl)) (XAn.nil)))) rfl)) (gU 12 rfl (.inl rfl)) (nomark _)) (XE.one (XE.cmp cGeA (gU 12 rfl (.inl rfl)) (gU 7 rfl (.inl rfl)) (nomark _)))))))) (XSs.nil))
      (XSs.one (XS.ret (gBl)))))))))))))))))))
theorem sc_law : FnScope N_law ["script"] (defScope s39) := ⟨rfl, rfl, rfl, by decide +kernel, rfl, by decide +kernel, by decide +kernel⟩
theorem fn_law (G : Gs K mg) (F__law_three : FnD P w K mg base "_law_three" 1 1 [] φ__law_three) (F__law_digits : FnD P w K mg base "_law_digits" 1 2 [] φ__law_digits) (F__law_text_by : FnD P w K mg base "_law_text_by" 2 2 [] φ__law_text_by) (F_Grammar_init : MkD P w K mg base "Grammar" 4 3 φ_Grammar_init) (F__law_counted_rows : FnD P w K mg base "_law_counted_rows" 2 3 [] φ__law_counted_rows) (F_count_derivations : FnD P w K mg base "count_derivations" 5 4 [(.int 20000)] φ_count_derivations) (F__law_cell : FnD P w K mg base "_law_cell" 1 2 [] φ__law_cell) (F__law_text : FnD P w K mg base "_law_text" 1 3 [] φ__law_text) (F__law_whole : FnD P w K mg base "_law_whole" 1 1 [] φ__law_whole) (F_renamed : FnD P w K mg base "renamed" 6 2 [] φ_renamed) {f : Addr} {fd : FuncData} (F : FunD K "law" "law" (defArgs s39) (defBody s39) (defScope s39) [] [] f fd) (hg : mg "law" = some (.ref f)) : FnD P w K mg base "law" 7 1 [] φ_law :=
  FnD.pos F sc_law rfl hg (fun _ _ _ _ _ _ us hl => match us, hl with | [_], _ => rfl) (fun cdv A outer s H E hr => xs_law G F__law_three F__law_digits F__law_text_by F_Grammar_init F__law_counted_rows F_count_derivations F__law_cell F__law_text F__law_whole F_renamed _ cdv A outer s H E hr)
end
end EW

set_option maxHeartbeats 4000000
/-! k70, plain: symbols, rules, a grammar made. -/
namespace EW
open PySem PySem.Spec L2 EV
theorem is_whole_int {i : Int} {P : OT → Prop} (h : P (.sh (.bl true))) : φ_is_whole [.int i] P := by
  simpa [φ_is_whole, w_is_whole, N_is_whole, wDef, env0, wEnds, wSeq, wIfS, wTst, wBin, wUse, wName, wC, wUn, wTup, wLst, waCons, waNil, wAsg, gVar, gTupD_mk, gsCons_mk, gsNil_mk, ex2, ex3, wRet, wRetN, wNext, wNever, wDrop, wFor, wiAny, wiRange1, wiRange2, wiEn, wCall, wNot, wAnd, wOr, wAndV, wOrV, wNotV, wIf, wTru, tru_non, tru_bl, tru_int, val_sh, val_lst, val_dT, val_dK, val_ins, intsD, fBl, fSub, fMul, fFdiv, fMod, fPow, fAddA_int, fAddA_form, fMulA_int, fIxA_rule0, fIxA_rule1, gT_rule, atI_c0, atI_c1, atI_c2, atI_c3, atI_c4, fLen, len_str, len_tup, len_slst, len_fz, len_lst, len_form, fInt, fIsA, isA_key, isA_ii, isA_is, isA_ib, isA_ss, wApp, wPar, wAugI, wChain, wYes, wipeE, wSl, woNone, woSome, fTupOf_tup, fTupOf_lst, fTupOf_slst, fTupOf_form, fLstOf, asL_slst, asL_lst, asR_slst, asR_fz, asR_lst, fMax, items_lst, items_fz, items_tup, items_form, items_str, wD0, wSetF, wFld, fields_ins, fields_sins, putFD, wMake, fIsN, fNotN, wDisp, wLc, wDcT, wGet2, isD_dT, isD_sdT, wPut, wForK] using h
theorem law_whole_int {i : Int} {P : OT → Prop} (h : P (.sh (.bl true))) : φ__law_whole [.int i] P := by
  simpa [φ__law_whole, w__law_whole, N__law_whole, wDef, env0, wEnds, wSeq, wIfS, wTst, wBin, wUse, wName, wC, wUn, wTup, wLst, waCons, waNil, wAsg, gVar, gTupD_mk, gsCons_mk, gsNil_mk, ex2, ex3, wRet, wRetN, wNext, wNever, wDrop, wFor, wiAny, wiRange1, wiRange2, wiEn, wCall, wNot, wAnd, wOr, wAndV, wOrV, wNotV, wIf, wTru, tru_non, tru_bl, tru_int, val_sh, val_lst, val_dT, val_dK, val_ins, intsD, fBl, fSub, fMul, fFdiv, fMod, fPow, fAddA_int, fAddA_form, fMulA_int, fIxA_rule0, fIxA_rule1, gT_rule, atI_c0, atI_c1, atI_c2, atI_c3, atI_c4, fLen, len_str, len_tup, len_slst, len_fz, len_lst, len_form, fInt, fIsA, isA_key, isA_ii, isA_is, isA_ib, isA_ss, wApp, wPar, wAugI, wChain, wYes, wipeE, wSl, woNone, woSome, fTupOf_tup, fTupOf_lst, fTupOf_slst, fTupOf_form, fLstOf, asL_slst, asL_lst, asR_slst, asR_fz, asR_lst, fMax, items_lst, items_fz, items_tup, items_form, items_str, wD0, wSetF, wFld, fields_ins, fields_sins, putFD, wMake, fIsN, fNotN, wDisp, wLc, wDcT, wGet2, isD_dT, isD_sdT, wPut, wForK] using h
def isV : Key → Bool
  | .inl _ => true
  | .inr _ => false
theorem is_variable_key {k : Key} {P : OT → Prop} (h : P (.sh (.bl (isV k)))) : φ_is_variable [keyD k] P := by
  cases k <;> simpa [φ_is_variable, w_is_variable, N_is_variable, keyD, isV, wDef, env0, wEnds, wSeq, wIfS, wTst, wBin, wUse, wName, wC, wUn, wTup, wLst, waCons, waNil, wAsg, gVar, gTupD_mk, gsCons_mk, gsNil_mk, ex2, ex3, wRet, wRetN, wNext, wNever, wDrop, wFor, wiAny, wiRange1, wiRange2, wiEn, wCall, wNot, wAnd, wOr, wAndV, wOrV, wNotV, wIf, wTru, tru_non, tru_bl, tru_int, val_sh, val_lst, val_dT, val_dK, val_ins, intsD, fBl, fSub, fMul, fFdiv, fMod, fPow, fAddA_int, fAddA_form, fMulA_int, fIxA_rule0, fIxA_rule1, gT_rule, atI_c0, atI_c1, atI_c2, atI_c3, atI_c4, fLen, len_str, len_tup, len_slst, len_fz, len_lst, len_form, fInt, fIsA, isA_key, isA_ii, isA_is, isA_ib, isA_ss, wApp, wPar, wAugI, wChain, wYes, wipeE, wSl, woNone, woSome, fTupOf_tup, fTupOf_lst, fTupOf_slst, fTupOf_form, fLstOf, asL_slst, asL_lst, asR_slst, asR_fz, asR_lst, fMax, items_lst, items_fz, items_tup, items_form, items_str, wD0, wSetF, wFld, fields_ins, fields_sins, putFD, wMake, fIsN, fNotN, wDisp, wLc, wDcT, wGet2, isD_dT, isD_sdT, wPut, wForK] using h
theorem lenStr (x : Str) : x.length = x.cps.size := rfl
/-- a symbol of the grammar's -/
def okSym (al : Str) (v : Int) : Key → Prop
  | .inl i => 0 ≤ i ∧ i < v
  | .inr x => ∃ c, x = ⟨#[c]⟩ ∧ c ∈ al.cps.toList
theorem is_symbol_ok {k : Key} {al : Str} {v : Int} {P : OT → Prop} (ok : okSym al v k) (h : P (.sh (.bl true))) : φ_is_symbol [keyD k, .str al, .int v] P := by
  cases k with
  | inl i =>
    simp [φ_is_symbol, w_is_symbol, N_is_symbol, keyD, wDef, env0, wEnds, wSeq, wIfS, wTst, wBin, wUse, wName, wC, wUn, wTup, wLst, waCons, waNil, wAsg, gVar, gTupD_mk, gsCons_mk, gsNil_mk, ex2, ex3, wRet, wRetN, wNext, wNever, wDrop, wFor, wiAny, wiRange1, wiRange2, wiEn, wCall, wNot, wAnd, wOr, wAndV, wOrV, wNotV, wIf, wTru, tru_non, tru_bl, tru_int, val_sh, val_lst, val_dT, val_dK, val_ins, intsD, fBl, fSub, fMul, fFdiv, fMod, fPow, fAddA_int, fAddA_form, fMulA_int, fIxA_rule0, fIxA_rule1, gT_rule, atI_c0, atI_c1, atI_c2, atI_c3, atI_c4, fLen, len_str, len_tup, len_slst, len_fz, len_lst, len_form, fInt, fIsA, isA_key, isA_ii, isA_is, isA_ib, isA_ss, wApp, wPar, wAugI, wChain, wYes, wipeE, wSl, woNone, woSome, fTupOf_tup, fTupOf_lst, fTupOf_slst, fTupOf_form, fLstOf, asL_slst, asL_lst, asR_slst, asR_fz, asR_lst, fMax, items_lst, items_fz, items_tup, items_form, items_str, wD0, wSetF, wFld, fields_ins, fields_sins, putFD, wMake, fIsN, fNotN, wDisp, wLc, wDcT, wGet2, isD_dT, isD_sdT, wPut, wForK]
    refine is_whole_int ?_
    simp [ok.1, ok.2, h]
  | inr x =>
    obtain ⟨c, rfl, hc⟩ := ok
    have hs : 1 ≤ sizeLine := by decide
    have hc' : c ∈ al.cps := by simpa using hc
    simp [φ_is_symbol, w_is_symbol, N_is_symbol, keyD, wDef, env0, wEnds, wSeq, wIfS, wTst, wBin, wUse, wName, wC, wUn, wTup, wLst, waCons, waNil, wAsg, gVar, gTupD_mk, gsCons_mk, gsNil_mk, ex2, ex3, wRet, wRetN, wNext, wNever, wDrop, wFor, wiAny, wiRange1, wiRange2, wiEn, wCall, wNot, wAnd, wOr, wAndV, wOrV, wNotV, wIf, wTru, tru_non, tru_bl, tru_int, val_sh, val_lst, val_dT, val_dK, val_ins, intsD, fBl, fSub, fMul, fFdiv, fMod, fPow, fAddA_int, fAddA_form, fMulA_int, fIxA_rule0, fIxA_rule1, gT_rule, atI_c0, atI_c1, atI_c2, atI_c3, atI_c4, fLen, len_str, len_tup, len_slst, len_fz, len_lst, len_form, fInt, fIsA, isA_key, isA_ii, isA_is, isA_ib, isA_ss, wApp, wPar, wAugI, wChain, wYes, wipeE, wSl, woNone, woSome, fTupOf_tup, fTupOf_lst, fTupOf_slst, fTupOf_form, fLstOf, asL_slst, asL_lst, asR_slst, asR_fz, asR_lst, fMax, items_lst, items_fz, items_tup, items_form, items_str, wD0, wSetF, wFld, fields_ins, fields_sins, putFD, wMake, fIsN, fNotN, wDisp, wLc, wDcT, wGet2, isD_dT, isD_sdT, wPut, wForK, fEq_int, fInA_str, lenStr, hs, hc', h]
theorem is_rule_l1 {L R : D} {al : Str} {v : Int} {W : WEnds} : ∀ (ks : List Key) (x : Option OT), (∀ k ∈ ks, okSym al v k) → (∀ x', W.nx [some (.sh L), some (.sh R), some (.sh (.str al)), some (.sh (.int v)), x']) →
    wLoop (gVar 4) b_is_rule_1 W (ks.map keyD) [some (.sh L), some (.sh R), some (.sh (.str al)), some (.sh (.int v)), x]
  | [], x, _, h => h x
  | k :: ks, x, ok, h => by
    simp only [List.map_cons, wLoop]
    simp [ub_is_rule_1, wDef, env0, wEnds, wSeq, wIfS, wTst, wBin, wUse, wName, wC, wUn, wTup, wLst, waCons, waNil, wAsg, gVar, gTupD_mk, gsCons_mk, gsNil_mk, ex2, ex3, wRet, wRetN, wNext, wNever, wDrop, wFor, wiAny, wiRange1, wiRange2, wiEn, wCall, wNot, wAnd, wOr, wAndV, wOrV, wNotV, wIf, wTru, tru_non, tru_bl, tru_int, val_sh, val_lst, val_dT, val_dK, val_ins, intsD, fBl, fSub, fMul, fFdiv, fMod, fPow, fAddA_int, fAddA_form, fMulA_int, fIxA_rule0, fIxA_rule1, gT_rule, atI_c0, atI_c1, atI_c2, atI_c3, atI_c4, fLen, len_str, len_tup, len_slst, len_fz, len_lst, len_form, fInt, fIsA, isA_key, isA_ii, isA_is, isA_ib, isA_ss, wApp, wPar, wAugI, wChain, wYes, wipeE, wSl, woNone, woSome, fTupOf_tup, fTupOf_lst, fTupOf_slst, fTupOf_form, fLstOf, asL_slst, asL_lst, asR_slst, asR_fz, asR_lst, fMax, items_lst, items_fz, items_tup, items_form, items_str, wD0, wSetF, wFld, fields_ins, fields_sins, putFD, wMake, fIsN, fNotN, wDisp, wLc, wDcT, wGet2, isD_dT, isD_sdT, wPut, wForK]
    refine is_symbol_ok (ok k (by simp)) ?_
    simp [tru_bl]
    exact is_rule_l1 ks _ (fun k' m => ok k' (by simp [m])) h
theorem is_rule_l2 {L R : D} {al : Str} {v : Int} {W : WEnds} : ∀ (ks : List Key) (x : Option OT), (∃ k ∈ ks, isV k = true) → W.rt (.sh (.bl true)) →
    wLoop (gVar 4) b_is_rule_2 W (ks.map keyD) [some (.sh L), some (.sh R), some (.sh (.str al)), some (.sh (.int v)), x]
  | [], x, ⟨k, hm, _⟩, h => by cases hm
  | k :: ks, x, hk, h => by
    simp only [List.map_cons, wLoop]
    simp [ub_is_rule_2, wDef, env0, wEnds, wSeq, wIfS, wTst, wBin, wUse, wName, wC, wUn, wTup, wLst, waCons, waNil, wAsg, gVar, gTupD_mk, gsCons_mk, gsNil_mk, ex2, ex3, wRet, wRetN, wNext, wNever, wDrop, wFor, wiAny, wiRange1, wiRange2, wiEn, wCall, wNot, wAnd, wOr, wAndV, wOrV, wNotV, wIf, wTru, tru_non, tru_bl, tru_int, val_sh, val_lst, val_dT, val_dK, val_ins, intsD, fBl, fSub, fMul, fFdiv, fMod, fPow, fAddA_int, fAddA_form, fMulA_int, fIxA_rule0, fIxA_rule1, gT_rule, atI_c0, atI_c1, atI_c2, atI_c3, atI_c4, fLen, len_str, len_tup, len_slst, len_fz, len_lst, len_form, fInt, fIsA, isA_key, isA_ii, isA_is, isA_ib, isA_ss, wApp, wPar, wAugI, wChain, wYes, wipeE, wSl, woNone, woSome, fTupOf_tup, fTupOf_lst, fTupOf_slst, fTupOf_form, fLstOf, asL_slst, asL_lst, asR_slst, asR_fz, asR_lst, fMax, items_lst, items_fz, items_tup, items_form, items_str, wD0, wSetF, wFld, fields_ins, fields_sins, putFD, wMake, fIsN, fNotN, wDisp, wLc, wDcT, wGet2, isD_dT, isD_sdT, wPut, wForK]
    refine is_variable_key ?_
    simp [tru_bl]
    by_cases e : isV k = true
    · simp [e, h]
    · have e' : isV k = false := by simpa using e
      simp [e']
      obtain ⟨k', hm, hv⟩ := hk
      refine is_rule_l2 ks _ ⟨k', ?_, hv⟩ h
      rcases List.mem_cons.mp hm with z | z
      · subst z; exact absurd hv e
      · exact z
structure okRule (al : Str) (v : Int) (r : Rl) : Prop where
  sl : ∀ k ∈ r.1, okSym al v k
  sr : ∀ k ∈ r.2, okSym al v k
  hv : ∃ k ∈ r.1, isV k = true
  ll : r.1.length ≤ 2
  rl : r.2.length ≤ 3
theorem is_rule_ok {r : Rl} {al : Str} {v : Int} {P : OT → Prop} (ok : okRule al v r) (h : P (.sh (.bl true))) : φ_is_rule [formD r.1, formD r.2, .str al, .int v] P := by
  have hs : r.1.length + r.2.length ≤ sizeLine := by
    have := ok.ll; have := ok.rl
    have : sizeLine = 16777216 := by decide
    omega
  have e0 : (formD (r.1 ++ r.2)).items = some ((r.1 ++ r.2).map keyD) := rfl
  simp [φ_is_rule, w_is_rule, N_is_rule, wDef, wSeq, wFor, wiAny, wBin, wUse, env0, fAddA_form, hs, OT.val, e0]
  rw [← List.map_append]
  refine is_rule_l1 (r.1 ++ r.2) _ (fun k m => ?_) fun x' => ?_
  · rcases List.mem_append.mp m with m | m
    · exact ok.sl k m
    · exact ok.sr k m
  · have e1 : (formD r.1).items = some (r.1.map keyD) := rfl
    simp [wSeq, wFor, wiAny, wName, OT.val, e1]
    exact is_rule_l2 r.1 _ ok.hv h
/-! ### a grammar -/
def grD (al : Str) (v : Int) (rs : List Rl) : D := .ins "Grammar" [("alphabet", .str al), ("variables", .int v), ("rules", .tup (rs.map ruleD))]
def grF (al : Str) (v : Int) (rs : List Rl) : List (Str × D) := [("alphabet", .str al), ("variables", .int v), ("rules", .tup (rs.map ruleD))]
theorem form_not (f : List Key) : formD f = .tup (f.map keyD) := rfl
theorem init_loop {S : OT} {RS : D} {al : Str} {v : Int} {W : WEnds} : ∀ (rs : List Rl) (n : Nat) (out : List Rl) (x1 x2 x3 x4 : Option OT), (∀ r ∈ rs, okRule al v r) → out.length + rs.length < sizeLine →
    (∀ x1 x2 x3 x4, W.nx [some S, some (.sh (.str al)), some (.sh (.int v)), some (.sh RS), some (.lst ((out ++ rs).map ruleD)), x1, x2, x3, x4]) →
    wLoop (gTupD 2 (gsCons (gVar 5) (gsCons (gVar 6) gsNil))) b_Grammar_init_1 W (enumD n (rs.map ruleD)) [some S, some (.sh (.str al)), some (.sh (.int v)), some (.sh RS), some (.lst (out.map ruleD)), x1, x2, x3, x4]
  | [], n, out, x1, x2, x3, x4, _, _, h => by
    have := h x1 x2 x3 x4
    rw [List.append_nil] at this
    exact this
  | r :: rs, n, out, x1, x2, x3, x4, ok, hl, h => by
    rw [List.map_cons, enumD_cons]
    simp only [wLoop]
    simp only [List.length_cons] at hl
    simp [ub_Grammar_init_1, wDef, env0, wEnds, wSeq, wIfS, wTst, wBin, wUse, wName, wC, wUn, wTup, wLst, waCons, waNil, wAsg, gVar, gTupD_mk, gsCons_mk, gsNil_mk, ex2, ex3, wRet, wRetN, wNext, wNever, wDrop, wFor, wiAny, wiRange1, wiRange2, wiEn, wCall, wNot, wAnd, wOr, wAndV, wOrV, wNotV, wIf, wTru, tru_non, tru_bl, tru_int, val_sh, val_lst, val_dT, val_dK, val_ins, intsD, fBl, fSub, fMul, fFdiv, fMod, fPow, fAddA_int, fAddA_form, fMulA_int, fIxA_rule0, fIxA_rule1, gT_rule, atI_c0, atI_c1, atI_c2, atI_c3, atI_c4, fLen, len_str, len_tup, len_slst, len_fz, len_lst, len_form, fInt, fIsA, isA_key, isA_ii, isA_is, isA_ib, isA_ss, wApp, wPar, wAugI, wChain, wYes, wipeE, wSl, woNone, woSome, fTupOf_tup, fTupOf_lst, fTupOf_slst, fTupOf_form, fLstOf, asL_slst, asL_lst, asR_slst, asR_fz, asR_lst, fMax, items_lst, items_fz, items_tup, items_form, items_str, wD0, wSetF, wFld, fields_ins, fields_sins, putFD, wMake, fIsN, fNotN, wDisp, wLc, wDcT, wGet2, isD_dT, isD_sdT, wPut, wForK]
    refine is_rule_ok (ok r (by simp)) ?_
    have hs : 2 ≤ sizeLine := by decide
    have h1 : out.length < sizeLine := by omega
    simp [hs, h1, tru_bl, -List.map_append]
    have q := init_loop (S := S) (RS := RS) (W := W) rs (n + 1) (out ++ [r]) (some (.sh (.int n))) (some (.sh (ruleD r))) (some (.sh (formD r.1))) (some (.sh (formD r.2))) (fun r' m => ok r' (by simp [m])) (by simp; omega) (by simpa using h)
    simpa [ruleD] using q
def abS : Str := ⟨#[97, 98]⟩
def aS : Str := ⟨#[97]⟩
theorem ab_eq : ("ab" : Str) = abS := rfl
theorem a_eq : ("a" : Str) = aS := rfl
def okAl (al : Str) : Prop := al = abS ∨ al = aS
theorem is_alphabet_ok {al : Str} {P : OT → Prop} (ok : okAl al) (h : P (.sh (.bl true))) : φ_is_alphabet [.str al] P := by
  have hs1 : (1 : Nat) ≤ sizeLine := by decide
  have hs2 : (2 : Nat) ≤ sizeLine := by decide
  have la : (97 : Nat) ∈ ("abcdefghijklmnopqrstuvwxyz" : Str).cps := by decide +kernel
  have lb : (98 : Nat) ∈ ("abcdefghijklmnopqrstuvwxyz" : Str).cps := by decide +kernel
  rcases ok with rfl | rfl
  · have r2 : rangeD 0 2 = [.int 0, .int 1] := rfl
    have c0 : atI abS.cps.toList 0 = some 97 := atI_c0
    have c1 : atI abS.cps.toList 1 = some 98 := atI_c1
    have l2 : abS.length = 2 := rfl
    have lt : [97] < [98] := by decide
    simp [φ_is_alphabet, w_is_alphabet, N_is_alphabet, wDef, env0, wEnds, wSeq, wIfS, wTst, wBin, wUse, wName, wC, wUn, wTup, wLst, waCons, waNil, wAsg, gVar, gTupD_mk, gsCons_mk, gsNil_mk, ex2, ex3, wRet, wRetN, wNext, wNever, wDrop, wFor, wiAny, wiRange1, wiRange2, wiEn, wCall, wNot, wAnd, wOr, wAndV, wOrV, wNotV, wIf, wTru, tru_non, tru_bl, tru_int, val_sh, val_lst, val_dT, val_dK, val_ins, intsD, fBl, fSub, fMul, fFdiv, fMod, fPow, fAddA_int, fAddA_form, fMulA_int, fIxA_rule0, fIxA_rule1, gT_rule, atI_c0, atI_c1, atI_c2, atI_c3, atI_c4, fLen, len_str, len_tup, len_slst, len_fz, len_lst, len_form, fInt, fIsA, isA_key, isA_ii, isA_is, isA_ib, isA_ss, wApp, wPar, wAugI, wChain, wYes, wipeE, wSl, woNone, woSome, fTupOf_tup, fTupOf_lst, fTupOf_slst, fTupOf_form, fLstOf, asL_slst, asL_lst, asR_slst, asR_fz, asR_lst, fMax, items_lst, items_fz, items_tup, items_form, items_str, wD0, wSetF, wFld, fields_ins, fields_sins, putFD, wMake, fIsN, fNotN, wDisp, wLc, wDcT, wGet2, isD_dT, isD_sdT, wPut, wForK, l2, hs2, r2, wLoop, ub_is_alphabet_1, fIxA_str, c0, c1, fInA_str, la, lb, fGeA_str, lt, h]
  · have r2 : rangeD 0 1 = [.int 0] := rfl
    have c0 : atI aS.cps.toList 0 = some 97 := atI_c0
    have l2 : aS.length = 1 := rfl
    simp [φ_is_alphabet, w_is_alphabet, N_is_alphabet, wDef, env0, wEnds, wSeq, wIfS, wTst, wBin, wUse, wName, wC, wUn, wTup, wLst, waCons, waNil, wAsg, gVar, gTupD_mk, gsCons_mk, gsNil_mk, ex2, ex3, wRet, wRetN, wNext, wNever, wDrop, wFor, wiAny, wiRange1, wiRange2, wiEn, wCall, wNot, wAnd, wOr, wAndV, wOrV, wNotV, wIf, wTru, tru_non, tru_bl, tru_int, val_sh, val_lst, val_dT, val_dK, val_ins, intsD, fBl, fSub, fMul, fFdiv, fMod, fPow, fAddA_int, fAddA_form, fMulA_int, fIxA_rule0, fIxA_rule1, gT_rule, atI_c0, atI_c1, atI_c2, atI_c3, atI_c4, fLen, len_str, len_tup, len_slst, len_fz, len_lst, len_form, fInt, fIsA, isA_key, isA_ii, isA_is, isA_ib, isA_ss, wApp, wPar, wAugI, wChain, wYes, wipeE, wSl, woNone, woSome, fTupOf_tup, fTupOf_lst, fTupOf_slst, fTupOf_form, fLstOf, asL_slst, asL_lst, asR_slst, asR_fz, asR_lst, fMax, items_lst, items_fz, items_tup, items_form, items_str, wD0, wSetF, wFld, fields_ins, fields_sins, putFD, wMake, fIsN, fNotN, wDisp, wLc, wDcT, wGet2, isD_dT, isD_sdT, wPut, wForK, l2, hs1, r2, wLoop, ub_is_alphabet_1, fIxA_str, c0, fInA_str, la, h]
theorem check_alphabet_ok {al : Str} {P : OT → Prop} (ok : okAl al) (h : P (.sh .non)) : φ_check_alphabet [.str al] P := by
  simp [φ_check_alphabet, w_check_alphabet, N_check_alphabet, wDef, env0, wEnds, wSeq, wIfS, wTst, wBin, wUse, wName, wC, wUn, wTup, wLst, waCons, waNil, wAsg, gVar, gTupD_mk, gsCons_mk, gsNil_mk, ex2, ex3, wRet, wRetN, wNext, wNever, wDrop, wFor, wiAny, wiRange1, wiRange2, wiEn, wCall, wNot, wAnd, wOr, wAndV, wOrV, wNotV, wIf, wTru, tru_non, tru_bl, tru_int, val_sh, val_lst, val_dT, val_dK, val_ins, intsD, fBl, fSub, fMul, fFdiv, fMod, fPow, fAddA_int, fAddA_form, fMulA_int, fIxA_rule0, fIxA_rule1, gT_rule, atI_c0, atI_c1, atI_c2, atI_c3, atI_c4, fLen, len_str, len_tup, len_slst, len_fz, len_lst, len_form, fInt, fIsA, isA_key, isA_ii, isA_is, isA_ib, isA_ss, wApp, wPar, wAugI, wChain, wYes, wipeE, wSl, woNone, woSome, fTupOf_tup, fTupOf_lst, fTupOf_slst, fTupOf_form, fLstOf, asL_slst, asL_lst, asR_slst, asR_fz, asR_lst, fMax, items_lst, items_fz, items_tup, items_form, items_str, wD0, wSetF, wFld, fields_ins, fields_sins, putFD, wMake, fIsN, fNotN, wDisp, wLc, wDcT, wGet2, isD_dT, isD_sdT, wPut, wForK]
  refine is_alphabet_ok ok ?_
  simp [tru_bl, h]
theorem init_ok {al : Str} {v : Int} {rs : List Rl} {a : Addr} {P : List (Str × D) → Prop} (ok : okAl al) (hv : 1 ≤ v) (hr : ∀ r ∈ rs, okRule al v r) (hl : rs.length < sizeLine) (h : P (grF al v rs)) : φ_Grammar_init a [.str al, .int v, .lst (rs.map ruleD)] P := by
  have hv' : ¬ v < 1 := by omega
  simp [φ_Grammar_init, w_Grammar_init, N_Grammar_init, wInit, wEndsI, wDef, env0, wEnds, wSeq, wIfS, wTst, wBin, wUse, wName, wC, wUn, wTup, wLst, waCons, waNil, wAsg, gVar, gTupD_mk, gsCons_mk, gsNil_mk, ex2, ex3, wRet, wRetN, wNext, wNever, wDrop, wFor, wiAny, wiRange1, wiRange2, wiEn, wCall, wNot, wAnd, wOr, wAndV, wOrV, wNotV, wIf, wTru, tru_non, tru_bl, tru_int, val_sh, val_lst, val_dT, val_dK, val_ins, intsD, fBl, fSub, fMul, fFdiv, fMod, fPow, fAddA_int, fAddA_form, fMulA_int, fIxA_rule0, fIxA_rule1, gT_rule, atI_c0, atI_c1, atI_c2, atI_c3, atI_c4, fLen, len_str, len_tup, len_slst, len_fz, len_lst, len_form, fInt, fIsA, isA_key, isA_ii, isA_is, isA_ib, isA_ss, wApp, wPar, wAugI, wChain, wYes, wipeE, wSl, woNone, woSome, fTupOf_tup, fTupOf_lst, fTupOf_slst, fTupOf_form, fLstOf, asL_slst, asL_lst, asR_slst, asR_fz, asR_lst, fMax, items_lst, items_fz, items_tup, items_form, items_str, wD0, wSetF, wFld, fields_ins, fields_sins, putFD, wMake, fIsN, fNotN, wDisp, wLc, wDcT, wGet2, isD_dT, isD_sdT, wPut, wForK]
  refine check_alphabet_ok ok ?_
  simp [hv]
  refine init_loop (out := []) rs 0 _ _ _ _ hr (by simpa using hl) fun x1 x2 x3 x4 => ?_
  simp [wDef, env0, wEnds, wSeq, wIfS, wTst, wBin, wUse, wName, wC, wUn, wTup, wLst, waCons, waNil, wAsg, gVar, gTupD_mk, gsCons_mk, gsNil_mk, ex2, ex3, wRet, wRetN, wNext, wNever, wDrop, wFor, wiAny, wiRange1, wiRange2, wiEn, wCall, wNot, wAnd, wOr, wAndV, wOrV, wNotV, wIf, wTru, tru_non, tru_bl, tru_int, val_sh, val_lst, val_dT, val_dK, val_ins, intsD, fBl, fSub, fMul, fFdiv, fMod, fPow, fAddA_int, fAddA_form, fMulA_int, fIxA_rule0, fIxA_rule1, gT_rule, atI_c0, atI_c1, atI_c2, atI_c3, atI_c4, fLen, len_str, len_tup, len_slst, len_fz, len_lst, len_form, fInt, fIsA, isA_key, isA_ii, isA_is, isA_ib, isA_ss, wApp, wPar, wAugI, wChain, wYes, wipeE, wSl, woNone, woSome, fTupOf_tup, fTupOf_lst, fTupOf_slst, fTupOf_form, fLstOf, asL_slst, asL_lst, asR_slst, asR_fz, asR_lst, fMax, items_lst, items_fz, items_tup, items_form, items_str, wD0, wSetF, wFld, fields_ins, fields_sins, putFD, wMake, fIsN, fNotN, wDisp, wLc, wDcT, wGet2, isD_dT, isD_sdT, wPut, wForK]
  have n1 : ¬ (("alphabet" : Str) = "variables") := by decide +kernel
  have n2 : ¬ (("alphabet" : Str) = "rules") := by decide +kernel
  have n3 : ¬ (("variables" : Str) = "rules") := by decide +kernel
  refine ⟨a, _, [], ⟨rfl, rfl, rfl⟩, rfl, by decide, rfl, ?_, rfl, ?_, _, ⟨rfl, rfl, rfl⟩, ?_⟩
  · simp [putFD]
  · simp [putFD, n1]
  · have e : putFD "rules" (D.tup (List.map ruleD rs)) (putFD "variables" (D.int v) (putFD "alphabet" (D.str al) [])) = grF al v rs := by simp [putFD, n1, n2, n3, grF]
    rw [e]
    exact h
end EW

set_option maxHeartbeats 4000000
/-! k70, plain: the kinds, the texts. -/
namespace EW
open PySem PySem.Spec L2 EV
theorem size_big : sizeLine = 16777216 := by decide
theorem okK_sym {al : Str} {v : Int} {k : Key} (ha : okAl al) (ok : okSym al v k) : okK k = true := by
  cases k with
  | inl i => rfl
  | inr x =>
    obtain ⟨c, rfl, hc⟩ := ok
    have : c = 97 ∨ c = 98 := by
      rcases ha with rfl | rfl
      · simpa [abS] using hc
      · have : c = 97 := by simpa [aS] using hc
        exact .inl this
    rcases this with rfl | rfl
    · decide +kernel
    · decide +kernel
theorem okF_syms {al : Str} {v : Int} {f : List Key} (ha : okAl al) (ok : ∀ k ∈ f, okSym al v k) : okF f = true := List.all_eq_true.mpr fun k m => okK_sym ha (ok k m)
def isS (k : Key) : Bool := decide (k = .inl 0)
def brought (rs : List Rl) : Bool := rs.any fun r => r.2.any isS
theorem brought_l1 {RS L R : OT} {W : WEnds} : ∀ (ks : List Key) (x : Option OT), (ks.any isS = true → W.rt (.sh (.bl true))) → (ks.any isS = false → ∀ x', W.nx [some RS, some L, some R, x']) →
    wLoop (gVar 3) b_start_is_brought_1 W (ks.map keyD) [some RS, some L, some R, x]
  | [], x, _, h => h rfl x
  | k :: ks, x, h1, h2 => by
    simp only [List.map_cons, wLoop]
    simp [ub_start_is_brought_1, wDef, env0, wEnds, wSeq, wIfS, wTst, wBin, wUse, wName, wC, wUn, wTup, wLst, waCons, waNil, wAsg, gVar, gTupD_mk, gsCons_mk, gsNil_mk, ex2, ex3, wRet, wRetN, wNext, wNever, wDrop, wFor, wiAny, wiRange1, wiRange2, wiEn, wCall, wNot, wAnd, wOr, wAndV, wOrV, wNotV, wIf, wTru, tru_non, tru_bl, tru_int, val_sh, val_lst, val_dT, val_dK, val_ins, intsD, fBl, fSub, fMul, fFdiv, fMod, fPow, fAddA_int, fAddA_form, fMulA_int, fIxA_rule0, fIxA_rule1, gT_rule, atI_c0, atI_c1, atI_c2, atI_c3, atI_c4, fLen, len_str, len_tup, len_slst, len_fz, len_lst, len_form, fInt, fIsA, isA_key, isA_ii, isA_is, isA_ib, isA_ss, wApp, wPar, wAugI, wChain, wYes, wipeE, wSl, woNone, woSome, fTupOf_tup, fTupOf_lst, fTupOf_slst, fTupOf_form, fLstOf, asL_slst, asL_lst, asR_slst, asR_fz, asR_lst, fMax, items_lst, items_fz, items_tup, items_form, items_str, wD0, wSetF, wFld, fields_ins, fields_sins, putFD, wMake, fIsN, fNotN, wDisp, wLc, wDcT, wGet2, isD_dT, isD_sdT, wPut, wForK]
    refine is_variable_key ?_
    simp [tru_bl]
    cases k with
    | inr y =>
      simp [isV]
      refine brought_l1 ks _ (fun e => h1 (by simp [e])) fun e => h2 (by simp [isS, e])
    | inl i =>
      simp [isV, keyD, fEq_int]
      by_cases e : i = 0
      · simp [e]
        exact h1 (by simp [isS, e])
      · simp [e]
        exact brought_l1 ks _ (fun z => h1 (by simp [z])) fun z => h2 (by simp [isS, e, z])
theorem brought_l2 {RS : OT} {W : WEnds} : ∀ (rs : List Rl) (x1 x2 x3 : Option OT), (brought rs = true → W.rt (.sh (.bl true))) → (brought rs = false → ∀ x1 x2 x3, W.nx [some RS, x1, x2, x3]) →
    wLoop (gTupD 2 (gsCons (gVar 1) (gsCons (gVar 2) gsNil))) b_start_is_brought_2 W (rs.map ruleD) [some RS, x1, x2, x3]
  | [], x1, x2, x3, _, h => h rfl x1 x2 x3
  | r :: rs, x1, x2, x3, h1, h2 => by
    simp only [List.map_cons, wLoop]
    simp [ub_start_is_brought_2, wDef, env0, wEnds, wSeq, wIfS, wTst, wBin, wUse, wName, wC, wUn, wTup, wLst, waCons, waNil, wAsg, gVar, gTupD_mk, gsCons_mk, gsNil_mk, ex2, ex3, wRet, wRetN, wNext, wNever, wDrop, wFor, wiAny, wiRange1, wiRange2, wiEn, wCall, wNot, wAnd, wOr, wAndV, wOrV, wNotV, wIf, wTru, tru_non, tru_bl, tru_int, val_sh, val_lst, val_dT, val_dK, val_ins, intsD, fBl, fSub, fMul, fFdiv, fMod, fPow, fAddA_int, fAddA_form, fMulA_int, fIxA_rule0, fIxA_rule1, gT_rule, atI_c0, atI_c1, atI_c2, atI_c3, atI_c4, fLen, len_str, len_tup, len_slst, len_fz, len_lst, len_form, fInt, fIsA, isA_key, isA_ii, isA_is, isA_ib, isA_ss, wApp, wPar, wAugI, wChain, wYes, wipeE, wSl, woNone, woSome, fTupOf_tup, fTupOf_lst, fTupOf_slst, fTupOf_form, fLstOf, asL_slst, asL_lst, asR_slst, asR_fz, asR_lst, fMax, items_lst, items_fz, items_tup, items_form, items_str, wD0, wSetF, wFld, fields_ins, fields_sins, putFD, wMake, fIsN, fNotN, wDisp, wLc, wDcT, wGet2, isD_dT, isD_sdT, wPut, wForK]
    refine brought_l1 r.2 _ (fun e => h1 (by simp [brought, e])) fun e x' => ?_
    exact brought_l2 rs _ _ _ (fun z => h1 (by simp [brought] at z ⊢; exact .inr z)) fun z => h2 (by simp only [brought, List.any_cons, e, Bool.false_or]; exact z)
theorem start_is_brought_ok {rs : List Rl} {P : OT → Prop} (h : P (.sh (.bl (brought rs)))) : φ_start_is_brought [.tup (rs.map ruleD)] P := by
  simp [φ_start_is_brought, w_start_is_brought, N_start_is_brought, wDef, env0, wEnds, wSeq, wIfS, wTst, wBin, wUse, wName, wC, wUn, wTup, wLst, waCons, waNil, wAsg, gVar, gTupD_mk, gsCons_mk, gsNil_mk, ex2, ex3, wRet, wRetN, wNext, wNever, wDrop, wFor, wiAny, wiRange1, wiRange2, wiEn, wCall, wNot, wAnd, wOr, wAndV, wOrV, wNotV, wIf, wTru, tru_non, tru_bl, tru_int, val_sh, val_lst, val_dT, val_dK, val_ins, intsD, fBl, fSub, fMul, fFdiv, fMod, fPow, fAddA_int, fAddA_form, fMulA_int, fIxA_rule0, fIxA_rule1, gT_rule, atI_c0, atI_c1, atI_c2, atI_c3, atI_c4, fLen, len_str, len_tup, len_slst, len_fz, len_lst, len_form, fInt, fIsA, isA_key, isA_ii, isA_is, isA_ib, isA_ss, wApp, wPar, wAugI, wChain, wYes, wipeE, wSl, woNone, woSome, fTupOf_tup, fTupOf_lst, fTupOf_slst, fTupOf_form, fLstOf, asL_slst, asL_lst, asR_slst, asR_fz, asR_lst, fMax, items_lst, items_fz, items_tup, items_form, items_str, wD0, wSetF, wFld, fields_ins, fields_sins, putFD, wMake, fIsN, fNotN, wDisp, wLc, wDcT, wGet2, isD_dT, isD_sdT, wPut, wForK]
  refine brought_l2 rs _ _ _ (fun e => ?_) fun e x1 x2 x3 => ?_
  · rw [e] at h; exact h
  · rw [e] at h; simpa [wDef, env0, wEnds, wSeq, wIfS, wTst, wBin, wUse, wName, wC, wUn, wTup, wLst, waCons, waNil, wAsg, gVar, gTupD_mk, gsCons_mk, gsNil_mk, ex2, ex3, wRet, wRetN, wNext, wNever, wDrop, wFor, wiAny, wiRange1, wiRange2, wiEn, wCall, wNot, wAnd, wOr, wAndV, wOrV, wNotV, wIf, wTru, tru_non, tru_bl, tru_int, val_sh, val_lst, val_dT, val_dK, val_ins, intsD, fBl, fSub, fMul, fFdiv, fMod, fPow, fAddA_int, fAddA_form, fMulA_int, fIxA_rule0, fIxA_rule1, gT_rule, atI_c0, atI_c1, atI_c2, atI_c3, atI_c4, fLen, len_str, len_tup, len_slst, len_fz, len_lst, len_form, fInt, fIsA, isA_key, isA_ii, isA_is, isA_ib, isA_ss, wApp, wPar, wAugI, wChain, wYes, wipeE, wSl, woNone, woSome, fTupOf_tup, fTupOf_lst, fTupOf_slst, fTupOf_form, fLstOf, asL_slst, asL_lst, asR_slst, asR_fz, asR_lst, fMax, items_lst, items_fz, items_tup, items_form, items_str, wD0, wSetF, wFld, fields_ins, fields_sins, putFD, wMake, fIsN, fNotN, wDisp, wLc, wDcT, wGet2, isD_dT, isD_sdT, wPut, wForK] using h
theorem is_of_kind_ok {l r : List Key} {P : OT → Prop} (hl : l.length ≤ sizeLine) (hr : r.length ≤ sizeLine) (h : P (.sh (.bl (decide (l.length ≤ r.length))))) : φ_is_of_kind [formD l, formD r, .int 3] P := by
  simp [φ_is_of_kind, w_is_of_kind, N_is_of_kind, wDef, env0, wEnds, wSeq, wIfS, wTst, wBin, wUse, wName, wC, wUn, wTup, wLst, waCons, waNil, wAsg, gVar, gTupD_mk, gsCons_mk, gsNil_mk, ex2, ex3, wRet, wRetN, wNext, wNever, wDrop, wFor, wiAny, wiRange1, wiRange2, wiEn, wCall, wNot, wAnd, wOr, wAndV, wOrV, wNotV, wIf, wTru, tru_non, tru_bl, tru_int, val_sh, val_lst, val_dT, val_dK, val_ins, intsD, fBl, fSub, fMul, fFdiv, fMod, fPow, fAddA_int, fAddA_form, fMulA_int, fIxA_rule0, fIxA_rule1, gT_rule, atI_c0, atI_c1, atI_c2, atI_c3, atI_c4, fLen, len_str, len_tup, len_slst, len_fz, len_lst, len_form, fInt, fIsA, isA_key, isA_ii, isA_is, isA_ib, isA_ss, wApp, wPar, wAugI, wChain, wYes, wipeE, wSl, woNone, woSome, fTupOf_tup, fTupOf_lst, fTupOf_slst, fTupOf_form, fLstOf, asL_slst, asL_lst, asR_slst, asR_fz, asR_lst, fMax, items_lst, items_fz, items_tup, items_form, items_str, wD0, wSetF, wFld, fields_ins, fields_sins, putFD, wMake, fIsN, fNotN, wDisp, wLc, wDcT, wGet2, isD_dT, isD_sdT, wPut, wForK, fEq_int, hl, hr]
  simpa using h
/-- right for kind 3 -/
def okKind (lets : Bool) (r : Rl) : Prop := r.1.length ≤ r.2.length ∨ (lets = true ∧ r = ([.inl 0], []))
theorem breaking_loop {G KD : OT} {al : Str} {v : Int} {lets : Bool} (ha : okAl al) {W : WEnds} : ∀ (rs : List Rl) (n : Nat) (x1 x2 x3 x4 : Option OT), (∀ r ∈ rs, okRule al v r ∧ okKind lets r) → (∀ x1 x2 x3 x4, W.nx [some G, some (.sh (.int 3)), some (.sh (.bl lets)), x1, x2, x3, x4]) →
    wLoop (gTupD 2 (gsCons (gVar 3) (gsCons (gTupD 2 (gsCons (gVar 5) (gsCons (gVar 6) gsNil))) gsNil))) b_breaking_rule_1 W (enumD n (rs.map ruleD)) [some G, some (.sh (.int 3)), some (.sh (.bl lets)), x1, x2, x3, x4]
  | [], n, x1, x2, x3, x4, _, h => h x1 x2 x3 x4
  | r :: rs, n, x1, x2, x3, x4, ok, h => by
    rw [List.map_cons, enumD_cons]
    simp only [wLoop]
    obtain ⟨okr, okk⟩ := ok r (by simp)
    have f1 := okF_syms ha okr.sl
    have f2 := okF_syms ha okr.sr
    have e0 : (D.tup [.int 0]) = formD [.inl 0] := rfl
    have e1 : (D.tup []) = formD [] := rfl
    have g0 : okF [.inl 0] = true := rfl
    have g1 : okF [] = true := rfl
    have l1 : r.1.length ≤ sizeLine := by have := okr.ll; have := size_big; omega
    have l2 : r.2.length ≤ sizeLine := by have := okr.rl; have := size_big; omega
    have h1 : (1 : Nat) ≤ sizeLine := by decide
    have next := fun y1 y2 y3 y4 => breaking_loop (G := G) (KD := KD) (lets := lets) ha (W := W) rs (n + 1) y1 y2 y3 y4 (fun r' m => ok r' (by simp [m])) h
    simp [ub_breaking_rule_1, wDef, env0, wEnds, wSeq, wIfS, wTst, wBin, wUse, wName, wC, wUn, wTup, wLst, waCons, waNil, wAsg, gVar, gTupD_mk, gsCons_mk, gsNil_mk, ex2, ex3, wRet, wRetN, wNext, wNever, wDrop, wFor, wiAny, wiRange1, wiRange2, wiEn, wCall, wNot, wAnd, wOr, wAndV, wOrV, wNotV, wIf, wTru, tru_non, tru_bl, tru_int, val_sh, val_lst, val_dT, val_dK, val_ins, intsD, fBl, fSub, fMul, fFdiv, fMod, fPow, fAddA_int, fAddA_form, fMulA_int, fIxA_rule0, fIxA_rule1, gT_rule, atI_c0, atI_c1, atI_c2, atI_c3, atI_c4, fLen, len_str, len_tup, len_slst, len_fz, len_lst, len_form, fInt, fIsA, isA_key, isA_ii, isA_is, isA_ib, isA_ss, wApp, wPar, wAugI, wChain, wYes, wipeE, wSl, woNone, woSome, fTupOf_tup, fTupOf_lst, fTupOf_slst, fTupOf_form, fLstOf, asL_slst, asL_lst, asR_slst, asR_fz, asR_lst, fMax, items_lst, items_fz, items_tup, items_form, items_str, wD0, wSetF, wFld, fields_ins, fields_sins, putFD, wMake, fIsN, fNotN, wDisp, wLc, wDcT, wGet2, isD_dT, isD_sdT, wPut, wForK]
    cases lets with
    | false =>
      simp
      refine is_of_kind_ok l1 l2 ?_
      have : r.1.length ≤ r.2.length := okk.elim id fun z => by simp at z
      simp [tru_bl, this]
      exact next _ _ _ _
    | true =>
      simp only [e0, e1, fEq_form f1 g0, fEq_form f2 g1]
      by_cases c1 : r.1 = [.inl 0] ∧ r.2 = []
      · simp [c1.1, c1.2, tru_bl, h1, fEq_form, g0, g1]
        rw [← c1.1, ← c1.2]
        exact next _ _ _ _
      · have ll : r.1.length ≤ r.2.length := okk.elim id fun z => (c1 (by rw [z.2]; exact ⟨rfl, rfl⟩)).elim
        by_cases c2 : r.1 = [.inl 0]
        · have c3 : ¬ r.2 = [] := fun z => c1 ⟨c2, z⟩
          simp [c2, c3, tru_bl, h1]
          rw [← c2]
          refine is_of_kind_ok l1 l2 ?_
          simp [tru_bl, ll]
          exact next _ _ _ _
        · simp [c2, tru_bl, h1]
          refine is_of_kind_ok l1 l2 ?_
          simp [tru_bl, ll]
          exact next _ _ _ _
end EW

set_option maxHeartbeats 4000000
/-! k70, plain: kind 3, texts, undoings. -/
namespace EW
open PySem PySem.Spec L2 EV
theorem fld_g (al : Str) (v : Int) (rs : List Rl) : (OT.sh (grD al v rs)).fields = some (("Grammar" : Str), grF al v rs) := rfl
theorem lk_al (al : Str) (v : Int) (rs : List Rl) : (grF al v rs).lookup ("alphabet" : Str) = some (.str al) := rfl
theorem lk_v (al : Str) (v : Int) (rs : List Rl) : (grF al v rs).lookup ("variables" : Str) = some (.int v) := by
  have e : (("variables" : Str) == "alphabet") = false := by decide +kernel
  simp [grF, List.lookup_cons, e]
theorem lk_r (al : Str) (v : Int) (rs : List Rl) : (grF al v rs).lookup ("rules" : Str) = some (.tup (rs.map ruleD)) := by
  have e : (("rules" : Str) == "alphabet") = false := by decide +kernel
  have e2 : (("rules" : Str) == "variables") = false := by decide +kernel
  simp [grF, List.lookup_cons, e, e2]
structure okGr (al : Str) (v : Int) (rs : List Rl) : Prop where
  hal : okAl al
  hv : 1 ≤ v
  r : ∀ r ∈ rs, okRule al v r
  k : ∀ r ∈ rs, okKind (!brought rs) r
  n : rs.length ≤ 16
theorem check_kind_ok {al : Str} {v : Int} {rs : List Rl} {P : OT → Prop} (ok : okGr al v rs) (h : P (.sh .non)) : φ_check_kind [grD al v rs, .int 3] P := by
  have e3 : ∀ P : OT → Prop, fInA false (.sh (.int 3)) (.sh (.tup [.int 1, .int 3])) P = P (.sh (.bl true)) := fun P => by
    have := fInA_form (neg := false) (k := .inl 3) (f := [.inl 1, .inl 3]) (P := P)
    simpa [keyD, formD, kMem] using this
  have h2 : (2 : Nat) ≤ sizeLine := by decide
  simp [φ_check_kind, w_check_kind, N_check_kind, wDef, env0, wEnds, wSeq, wIfS, wTst, wBin, wUse, wName, wC, wUn, wTup, wLst, waCons, waNil, wAsg, gVar, gTupD_mk, gsCons_mk, gsNil_mk, ex2, ex3, wRet, wRetN, wNext, wNever, wDrop, wFor, wiAny, wiRange1, wiRange2, wiEn, wCall, wNot, wAnd, wOr, wAndV, wOrV, wNotV, wIf, wTru, tru_non, tru_bl, tru_int, val_sh, val_lst, val_dT, val_dK, val_ins, intsD, fBl, fSub, fMul, fFdiv, fMod, fPow, fAddA_int, fAddA_form, fMulA_int, fIxA_rule0, fIxA_rule1, gT_rule, atI_c0, atI_c1, atI_c2, atI_c3, atI_c4, fLen, len_str, len_tup, len_slst, len_fz, len_lst, len_form, fInt, fIsA, isA_key, isA_ii, isA_is, isA_ib, isA_ss, wApp, wPar, wAugI, wChain, wYes, wipeE, wSl, woNone, woSome, fTupOf_tup, fTupOf_lst, fTupOf_slst, fTupOf_form, fLstOf, asL_slst, asL_lst, asR_slst, asR_fz, asR_lst, fMax, items_lst, items_fz, items_tup, items_form, items_str, wD0, wSetF, wFld, fields_ins, fields_sins, putFD, wMake, fIsN, fNotN, wDisp, wLc, wDcT, wGet2, isD_dT, isD_sdT, wPut, wForK]
  simp [φ_breaking_rule, w_breaking_rule, N_breaking_rule, wDef, env0, wEnds, wSeq, wIfS, wTst, wBin, wUse, wName, wC, wUn, wTup, wLst, waCons, waNil, wAsg, gVar, gTupD_mk, gsCons_mk, gsNil_mk, ex2, ex3, wRet, wRetN, wNext, wNever, wDrop, wFor, wiAny, wiRange1, wiRange2, wiEn, wCall, wNot, wAnd, wOr, wAndV, wOrV, wNotV, wIf, wTru, tru_non, tru_bl, tru_int, val_sh, val_lst, val_dT, val_dK, val_ins, intsD, fBl, fSub, fMul, fFdiv, fMod, fPow, fAddA_int, fAddA_form, fMulA_int, fIxA_rule0, fIxA_rule1, gT_rule, atI_c0, atI_c1, atI_c2, atI_c3, atI_c4, fLen, len_str, len_tup, len_slst, len_fz, len_lst, len_form, fInt, fIsA, isA_key, isA_ii, isA_is, isA_ib, isA_ss, wApp, wPar, wAugI, wChain, wYes, wipeE, wSl, woNone, woSome, fTupOf_tup, fTupOf_lst, fTupOf_slst, fTupOf_form, fLstOf, asL_slst, asL_lst, asR_slst, asR_fz, asR_lst, fMax, items_lst, items_fz, items_tup, items_form, items_str, wD0, wSetF, wFld, fields_ins, fields_sins, putFD, wMake, fIsN, fNotN, wDisp, wLc, wDcT, wGet2, isD_dT, isD_sdT, wPut, wForK, e3, h2, fld_g, lk_r]
  refine start_is_brought_ok ?_
  simp [tru_bl, fld_g, lk_r]
  cases hb : brought rs with
  | true =>
    refine .inr ⟨rfl, breaking_loop (G := .sh (grD al v rs)) (KD := .sh .non) (lets := false) ok.hal rs 0 _ _ _ _ (fun r m => ⟨ok.r r m, by have := ok.k r m; rw [hb] at this; exact this⟩) fun x1 x2 x3 x4 => ?_⟩
    simp [wDef, env0, wEnds, wSeq, wIfS, wTst, wBin, wUse, wName, wC, wUn, wTup, wLst, waCons, waNil, wAsg, gVar, gTupD_mk, gsCons_mk, gsNil_mk, ex2, ex3, wRet, wRetN, wNext, wNever, wDrop, wFor, wiAny, wiRange1, wiRange2, wiEn, wCall, wNot, wAnd, wOr, wAndV, wOrV, wNotV, wIf, wTru, tru_non, tru_bl, tru_int, val_sh, val_lst, val_dT, val_dK, val_ins, intsD, fBl, fSub, fMul, fFdiv, fMod, fPow, fAddA_int, fAddA_form, fMulA_int, fIxA_rule0, fIxA_rule1, gT_rule, atI_c0, atI_c1, atI_c2, atI_c3, atI_c4, fLen, len_str, len_tup, len_slst, len_fz, len_lst, len_form, fInt, fIsA, isA_key, isA_ii, isA_is, isA_ib, isA_ss, wApp, wPar, wAugI, wChain, wYes, wipeE, wSl, woNone, woSome, fTupOf_tup, fTupOf_lst, fTupOf_slst, fTupOf_form, fLstOf, asL_slst, asL_lst, asR_slst, asR_fz, asR_lst, fMax, items_lst, items_fz, items_tup, items_form, items_str, wD0, wSetF, wFld, fields_ins, fields_sins, putFD, wMake, fIsN, fNotN, wDisp, wLc, wDcT, wGet2, isD_dT, isD_sdT, wPut, wForK, h]
  | false =>
    refine .inl ⟨rfl, breaking_loop (G := .sh (grD al v rs)) (KD := .sh .non) (lets := true) ok.hal rs 0 _ _ _ _ (fun r m => ⟨ok.r r m, by have := ok.k r m; rw [hb] at this; exact this⟩) fun x1 x2 x3 x4 => ?_⟩
    simp [wDef, env0, wEnds, wSeq, wIfS, wTst, wBin, wUse, wName, wC, wUn, wTup, wLst, waCons, waNil, wAsg, gVar, gTupD_mk, gsCons_mk, gsNil_mk, ex2, ex3, wRet, wRetN, wNext, wNever, wDrop, wFor, wiAny, wiRange1, wiRange2, wiEn, wCall, wNot, wAnd, wOr, wAndV, wOrV, wNotV, wIf, wTru, tru_non, tru_bl, tru_int, val_sh, val_lst, val_dT, val_dK, val_ins, intsD, fBl, fSub, fMul, fFdiv, fMod, fPow, fAddA_int, fAddA_form, fMulA_int, fIxA_rule0, fIxA_rule1, gT_rule, atI_c0, atI_c1, atI_c2, atI_c3, atI_c4, fLen, len_str, len_tup, len_slst, len_fz, len_lst, len_form, fInt, fIsA, isA_key, isA_ii, isA_is, isA_ib, isA_ss, wApp, wPar, wAugI, wChain, wYes, wipeE, wSl, woNone, woSome, fTupOf_tup, fTupOf_lst, fTupOf_slst, fTupOf_form, fLstOf, asL_slst, asL_lst, asR_slst, asR_fz, asR_lst, fMax, items_lst, items_fz, items_tup, items_form, items_str, wD0, wSetF, wFld, fields_ins, fields_sins, putFD, wMake, fIsN, fNotN, wDisp, wLc, wDcT, wGet2, isD_dT, isD_sdT, wPut, wForK, h]
theorem rangeD0 (n : Nat) : rangeD 0 n = (List.range n).map fun i => .int (i : Nat) := by
  unfold rangeD
  refine List.map_congr_left fun i _ => ?_
  simp
theorem stranger_loop {al t : Str} {W : WEnds} (hs : t.length ≤ sizeLine) (ht : ∀ c ∈ t.cps.toList, c ∈ al.cps.toList) : ∀ (l : List Nat) (x : Option OT), (∀ i ∈ l, i < t.length) → (∀ x, W.nx [some (.sh (.str al)), some (.sh (.str t)), x]) →
    wLoop (gVar 2) b_first_stranger_1 W (l.map fun i => .int (i : Nat)) [some (.sh (.str al)), some (.sh (.str t)), x]
  | [], x, _, h => h x
  | i :: l, x, hi, h => by
    simp only [List.map_cons, wLoop]
    have hl : i < t.cps.toList.length := by have := hi i (by simp); rw [lenStr] at this; simpa using this
    have e : atI t.cps.toList (i : Int) = some (t.cps.toList[i]) := by rw [EV.atI_nat]; simp
    have hm : t.cps.toList[i] ∈ al.cps.toList := ht _ (List.getElem_mem hl)
    simp only [ub_first_stranger_1]
    simp [wDef, env0, wEnds, wSeq, wIfS, wTst, wBin, wUse, wName, wC, wUn, wTup, wLst, waCons, waNil, wAsg, gVar, gTupD_mk, gsCons_mk, gsNil_mk, ex2, ex3, wRet, wRetN, wNext, wNever, wDrop, wFor, wiAny, wiRange1, wiRange2, wiEn, wCall, wNot, wAnd, wOr, wAndV, wOrV, wNotV, wIf, wTru, tru_non, tru_bl, tru_int, val_sh, val_lst, val_dT, val_dK, val_ins, intsD, fBl, fSub, fMul, fFdiv, fMod, fPow, fAddA_int, fAddA_form, fMulA_int, fIxA_rule0, fIxA_rule1, gT_rule, atI_c0, atI_c1, atI_c2, atI_c3, atI_c4, fLen, len_str, len_tup, len_slst, len_fz, len_lst, len_form, fInt, fIsA, isA_key, isA_ii, isA_is, isA_ib, isA_ss, wApp, wPar, wAugI, wChain, wYes, wipeE, wSl, woNone, woSome, fTupOf_tup, fTupOf_lst, fTupOf_slst, fTupOf_form, fLstOf, asL_slst, asL_lst, asR_slst, asR_fz, asR_lst, fMax, items_lst, items_fz, items_tup, items_form, items_str, wD0, wSetF, wFld, fields_ins, fields_sins, putFD, wMake, fIsN, fNotN, wDisp, wLc, wDcT, wGet2, isD_dT, isD_sdT, wPut, wForK, fIxA_str, hs, -Array.getElem_toList]
    refine ⟨_, e, ?_⟩
    simp only [fInA_str]
    simp [hm, -Array.getElem_toList]
    exact stranger_loop hs ht l _ (fun j m => hi j (by simp [m])) h
theorem check_text_ok {al t : Str} {P : OT → Prop} (ha : okAl al) (hs : t.length ≤ 16) (ht : ∀ c ∈ t.cps.toList, c ∈ al.cps.toList) (h : P (.sh .non)) : φ_check_text [.str al, .str t] P := by
  have h1 : t.length ≤ sizeLine := by have := size_big; omega
  have h2 : (t.length : Int) < 4611686018427387904 := by omega
  have h3 : -4611686018427387904 ≤ (t.length : Int) := by omega
  simp [φ_check_text, w_check_text, N_check_text, wDef, env0, wEnds, wSeq, wIfS, wTst, wBin, wUse, wName, wC, wUn, wTup, wLst, waCons, waNil, wAsg, gVar, gTupD_mk, gsCons_mk, gsNil_mk, ex2, ex3, wRet, wRetN, wNext, wNever, wDrop, wFor, wiAny, wiRange1, wiRange2, wiEn, wCall, wNot, wAnd, wOr, wAndV, wOrV, wNotV, wIf, wTru, tru_non, tru_bl, tru_int, val_sh, val_lst, val_dT, val_dK, val_ins, intsD, fBl, fSub, fMul, fFdiv, fMod, fPow, fAddA_int, fAddA_form, fMulA_int, fIxA_rule0, fIxA_rule1, gT_rule, atI_c0, atI_c1, atI_c2, atI_c3, atI_c4, fLen, len_str, len_tup, len_slst, len_fz, len_lst, len_form, fInt, fIsA, isA_key, isA_ii, isA_is, isA_ib, isA_ss, wApp, wPar, wAugI, wChain, wYes, wipeE, wSl, woNone, woSome, fTupOf_tup, fTupOf_lst, fTupOf_slst, fTupOf_form, fLstOf, asL_slst, asL_lst, asR_slst, asR_fz, asR_lst, fMax, items_lst, items_fz, items_tup, items_form, items_str, wD0, wSetF, wFld, fields_ins, fields_sins, putFD, wMake, fIsN, fNotN, wDisp, wLc, wDcT, wGet2, isD_dT, isD_sdT, wPut, wForK]
  refine check_alphabet_ok ha ?_
  simp [φ_first_stranger, w_first_stranger, N_first_stranger, wDef, env0, wEnds, wSeq, wIfS, wTst, wBin, wUse, wName, wC, wUn, wTup, wLst, waCons, waNil, wAsg, gVar, gTupD_mk, gsCons_mk, gsNil_mk, ex2, ex3, wRet, wRetN, wNext, wNever, wDrop, wFor, wiAny, wiRange1, wiRange2, wiEn, wCall, wNot, wAnd, wOr, wAndV, wOrV, wNotV, wIf, wTru, tru_non, tru_bl, tru_int, val_sh, val_lst, val_dT, val_dK, val_ins, intsD, fBl, fSub, fMul, fFdiv, fMod, fPow, fAddA_int, fAddA_form, fMulA_int, fIxA_rule0, fIxA_rule1, gT_rule, atI_c0, atI_c1, atI_c2, atI_c3, atI_c4, fLen, len_str, len_tup, len_slst, len_fz, len_lst, len_form, fInt, fIsA, isA_key, isA_ii, isA_is, isA_ib, isA_ss, wApp, wPar, wAugI, wChain, wYes, wipeE, wSl, woNone, woSome, fTupOf_tup, fTupOf_lst, fTupOf_slst, fTupOf_form, fLstOf, asL_slst, asL_lst, asR_slst, asR_fz, asR_lst, fMax, items_lst, items_fz, items_tup, items_form, items_str, wD0, wSetF, wFld, fields_ins, fields_sins, putFD, wMake, fIsN, fNotN, wDisp, wLc, wDcT, wGet2, isD_dT, isD_sdT, wPut, wForK, h1, h2, h3]
  rw [rangeD0]
  refine stranger_loop h1 ht _ _ (fun i m => List.mem_range.mp m) fun x => ?_
  simp [wDef, env0, wEnds, wSeq, wIfS, wTst, wBin, wUse, wName, wC, wUn, wTup, wLst, waCons, waNil, wAsg, gVar, gTupD_mk, gsCons_mk, gsNil_mk, ex2, ex3, wRet, wRetN, wNext, wNever, wDrop, wFor, wiAny, wiRange1, wiRange2, wiEn, wCall, wNot, wAnd, wOr, wAndV, wOrV, wNotV, wIf, wTru, tru_non, tru_bl, tru_int, val_sh, val_lst, val_dT, val_dK, val_ins, intsD, fBl, fSub, fMul, fFdiv, fMod, fPow, fAddA_int, fAddA_form, fMulA_int, fIxA_rule0, fIxA_rule1, gT_rule, atI_c0, atI_c1, atI_c2, atI_c3, atI_c4, fLen, len_str, len_tup, len_slst, len_fz, len_lst, len_form, fInt, fIsA, isA_key, isA_ii, isA_is, isA_ib, isA_ss, wApp, wPar, wAugI, wChain, wYes, wipeE, wSl, woNone, woSome, fTupOf_tup, fTupOf_lst, fTupOf_slst, fTupOf_form, fLstOf, asL_slst, asL_lst, asR_slst, asR_fz, asR_lst, fMax, items_lst, items_fz, items_tup, items_form, items_str, wD0, wSetF, wFld, fields_ins, fields_sins, putFD, wMake, fIsN, fNotN, wDisp, wLc, wDcT, wGet2, isD_dT, isD_sdT, wPut, wForK, h]
end EW

set_option maxHeartbeats 4000000
/-! k70, plain: undoings, by the program and by the law. -/
namespace EW
open PySem PySem.Spec L2 EV
abbrev Un := Nat × Nat × List Key
def unD (u : Un) : D := .tup [.int (u.1 : Nat), .int (u.2.1 : Nat), formD u.2.2]
def unL (u : Un) : D := .lst [.int (u.1 : Nat), .int (u.2.1 : Nat), formD u.2.2]
def bst (n : Nat) (r : Rl) (f : List Key) (p : Nat) : Option Un :=
  if 0 < r.2.length ∧ cutL f (some (p : Int)) (some ((p : Int) + r.2.length)) = r.2 then some (n, p, cutL f none (some (p : Int)) ++ r.1 ++ cutL f (some ((p : Int) + r.2.length)) none) else none
def bsr (n : Nat) (r : Rl) (f : List Key) : List Un := (List.range ((f.length : Int) - r.2.length + 1).toNat).filterMap (bst n r f)
def befs : Nat → List Rl → List Key → List Un
  | _, [], _ => []
  | n, r :: rs, f => bsr n r f ++ befs (n + 1) rs f
theorem cutL_sub {α : Type} (xs : List α) (lo hi : Option Int) : (cutL xs lo hi).Sublist xs := (List.take_sublist _ _).trans (List.drop_sublist _ _)
theorem okF_sub {f g : List Key} (h : g.Sublist f) (ok : okF f = true) : okF g = true := List.all_eq_true.mpr fun k m => List.all_eq_true.mp ok k (h.subset m)
theorem bsr_len (n : Nat) (r : Rl) (f : List Key) : (bsr n r f).length ≤ f.length + 1 := by
  refine Nat.le_trans (List.length_filterMap_le _ _) ?_
  rw [List.length_range]
  omega
theorem und_l1 {G : OT} {f : List Key} {r : Rl} {n : Nat} {W : WEnds} (okf : okF f = true) (okr : okF r.2 = true) (hf : f.length ≤ 16) (hr1 : r.1.length ≤ 2) (hr2 : r.2.length ≤ 3) : ∀ (l : List Nat) (out : List Un) (x : Option OT), out.length + l.length < sizeLine →
    (∀ x, W.nx [some G, some (.sh (formD f)), some (.lst ((out ++ l.filterMap (bst n r f)).map unD)), some (.sh (.int (n : Nat))), x, some (.sh (formD r.1)), some (.sh (formD r.2))]) →
    wLoop (gVar 4) b_undoings_of_1 W (l.map fun i => .int (i : Nat)) [some G, some (.sh (formD f)), some (.lst (out.map unD)), some (.sh (.int (n : Nat))), x, some (.sh (formD r.1)), some (.sh (formD r.2))]
  | [], out, x, _, h => by
    have := h x
    simpa [wLoop] using this
  | p :: l, out, x, hl, h => by
    simp only [List.map_cons, wLoop]
    simp only [List.length_cons] at hl
    have s1 : r.2.length ≤ sizeLine := by have := size_big; omega
    have okc : okF (cutL f (some (p : Int)) (some ((p : Int) + r.2.length))) = true := okF_sub (cutL_sub _ _ _) okf
    have c1 := (cutL_sub f none (some (p : Int))).length_le
    have c2 := (cutL_sub f (some ((p : Int) + r.2.length)) none).length_le
    have s2 : (cutL f none (some (p : Int))).length + r.1.length ≤ sizeLine := by have := size_big; omega
    have s3 : (cutL f none (some (p : Int))).length + r.1.length + (cutL f (some ((p : Int) + r.2.length)) none).length ≤ sizeLine := by have := size_big; omega
    have s4 : (3 : Nat) ≤ sizeLine := by decide
    have s5 : out.length < sizeLine := by omega
    simp only [ub_undoings_of_1]
    by_cases z : 0 < r.2.length
    · have z' : ¬ r.2.length = 0 := by omega
      by_cases c : cutL f (some (p : Int)) (some ((p : Int) + r.2.length)) = r.2
      · have hb : bst n r f p = some (n, p, cutL f none (some (p : Int)) ++ r.1 ++ cutL f (some ((p : Int) + r.2.length)) none) := by
          unfold bst; rw [if_pos ⟨z, c⟩]
        have e1 : ∀ P : OT → Prop, fEq (.sh (formD (cutL f (some (p : Int)) (some ((p : Int) + r.2.length))))) (.sh (formD r.2)) P = P (.sh (.bl true)) := fun P => by rw [fEq_form okc okr]; simp [c]
        simp [wDef, env0, wEnds, wSeq, wIfS, wTst, wBin, wUse, wName, wC, wUn, wTup, wLst, waCons, waNil, wAsg, gVar, gTupD_mk, gsCons_mk, gsNil_mk, ex2, ex3, wRet, wRetN, wNext, wNever, wDrop, wFor, wiAny, wiRange1, wiRange2, wiEn, wCall, wNot, wAnd, wOr, wAndV, wOrV, wNotV, wIf, wTru, tru_non, tru_bl, tru_int, val_sh, val_lst, val_dT, val_dK, val_ins, intsD, fBl, fSub, fMul, fFdiv, fMod, fPow, fAddA_int, fAddA_form, fMulA_int, fIxA_rule0, fIxA_rule1, gT_rule, atI_c0, atI_c1, atI_c2, atI_c3, atI_c4, fLen, len_str, len_tup, len_slst, len_fz, len_lst, len_form, fInt, fIsA, isA_key, isA_ii, isA_is, isA_ib, isA_ss, wApp, wPar, wAugI, wChain, wYes, wipeE, wSl, woNone, woSome, fTupOf_tup, fTupOf_lst, fTupOf_slst, fTupOf_form, fLstOf, asL_slst, asL_lst, asR_slst, asR_fz, asR_lst, fMax, items_lst, items_fz, items_tup, items_form, items_str, wD0, wSetF, wFld, fields_ins, fields_sins, putFD, wMake, fIsN, fNotN, wDisp, wLc, wDcT, wGet2, isD_dT, isD_sdT, wPut, wForK, s1, fSl_form, e1, z, s2, s4, s5]
        have q := und_l1 (G := G) (W := W) (n := n) okf okr hf hr1 hr2 l (out ++ [(n, p, cutL f none (some (p : Int)) ++ r.1 ++ cutL f (some ((p : Int) + r.2.length)) none)]) (some (.sh (.int (p : Nat)))) (by simp; omega) (by simpa [hb] using h)
        simp [unD] at q
        exact ⟨by omega, q⟩
      · have hb : bst n r f p = none := by unfold bst; rw [if_neg (fun q => c q.2)]
        have q := und_l1 (G := G) (W := W) (n := n) okf okr hf hr1 hr2 l out (some (.sh (.int (p : Nat)))) (by omega) (by simpa [hb] using h)
        simp [wDef, env0, wEnds, wSeq, wIfS, wTst, wBin, wUse, wName, wC, wUn, wTup, wLst, waCons, waNil, wAsg, gVar, gTupD_mk, gsCons_mk, gsNil_mk, ex2, ex3, wRet, wRetN, wNext, wNever, wDrop, wFor, wiAny, wiRange1, wiRange2, wiEn, wCall, wNot, wAnd, wOr, wAndV, wOrV, wNotV, wIf, wTru, tru_non, tru_bl, tru_int, val_sh, val_lst, val_dT, val_dK, val_ins, intsD, fBl, fSub, fMul, fFdiv, fMod, fPow, fAddA_int, fAddA_form, fMulA_int, fIxA_rule0, fIxA_rule1, gT_rule, atI_c0, atI_c1, atI_c2, atI_c3, atI_c4, fLen, len_str, len_tup, len_slst, len_fz, len_lst, len_form, fInt, fIsA, isA_key, isA_ii, isA_is, isA_ib, isA_ss, wApp, wPar, wAugI, wChain, wYes, wipeE, wSl, woNone, woSome, fTupOf_tup, fTupOf_lst, fTupOf_slst, fTupOf_form, fLstOf, asL_slst, asL_lst, asR_slst, asR_fz, asR_lst, fMax, items_lst, items_fz, items_tup, items_form, items_str, wD0, wSetF, wFld, fields_ins, fields_sins, putFD, wMake, fIsN, fNotN, wDisp, wLc, wDcT, wGet2, isD_dT, isD_sdT, wPut, wForK, s1, fSl_form, fEq_form okc okr, z, c]
        exact q
    · have z' : r.2.length = 0 := by omega
      have hb : bst n r f p = none := by unfold bst; rw [if_neg (fun q => z q.1)]
      have q := und_l1 (G := G) (W := W) (n := n) okf okr hf hr1 hr2 l out (some (.sh (.int (p : Nat)))) (by omega) (by simpa [hb] using h)
      simp [wDef, env0, wEnds, wSeq, wIfS, wTst, wBin, wUse, wName, wC, wUn, wTup, wLst, waCons, waNil, wAsg, gVar, gTupD_mk, gsCons_mk, gsNil_mk, ex2, ex3, wRet, wRetN, wNext, wNever, wDrop, wFor, wiAny, wiRange1, wiRange2, wiEn, wCall, wNot, wAnd, wOr, wAndV, wOrV, wNotV, wIf, wTru, tru_non, tru_bl, tru_int, val_sh, val_lst, val_dT, val_dK, val_ins, intsD, fBl, fSub, fMul, fFdiv, fMod, fPow, fAddA_int, fAddA_form, fMulA_int, fIxA_rule0, fIxA_rule1, gT_rule, atI_c0, atI_c1, atI_c2, atI_c3, atI_c4, fLen, len_str, len_tup, len_slst, len_fz, len_lst, len_form, fInt, fIsA, isA_key, isA_ii, isA_is, isA_ib, isA_ss, wApp, wPar, wAugI, wChain, wYes, wipeE, wSl, woNone, woSome, fTupOf_tup, fTupOf_lst, fTupOf_slst, fTupOf_form, fLstOf, asL_slst, asL_lst, asR_slst, asR_fz, asR_lst, fMax, items_lst, items_fz, items_tup, items_form, items_str, wD0, wSetF, wFld, fields_ins, fields_sins, putFD, wMake, fIsN, fNotN, wDisp, wLc, wDcT, wGet2, isD_dT, isD_sdT, wPut, wForK, s1, z']
      exact q
theorem und_l2 {G : OT} {f : List Key} {W : WEnds} (okf : okF f = true) (hf : f.length ≤ 16) : ∀ (rs : List Rl) (n : Nat) (out : List Un) (x1 x2 x3 x4 : Option OT), (∀ r ∈ rs, okF r.2 = true ∧ r.1.length ≤ 2 ∧ r.2.length ≤ 3) → out.length + rs.length * 17 < sizeLine →
    (∀ x1 x2 x3 x4, W.nx [some G, some (.sh (formD f)), some (.lst ((out ++ befs n rs f).map unD)), x1, x2, x3, x4]) →
    wLoop (gTupD 2 (gsCons (gVar 3) (gsCons (gTupD 2 (gsCons (gVar 5) (gsCons (gVar 6) gsNil))) gsNil))) b_undoings_of_2 W (enumD n (rs.map ruleD)) [some G, some (.sh (formD f)), some (.lst (out.map unD)), x1, x2, x3, x4]
  | [], n, out, x1, x2, x3, x4, _, _, h => by
    have := h x1 x2 x3 x4
    simpa [wLoop, befs, enumD] using this
  | r :: rs, n, out, x1, x2, x3, x4, ok, hl, h => by
    rw [List.map_cons, enumD_cons]
    simp only [wLoop]
    obtain ⟨o1, o2, o3⟩ := ok r (by simp)
    simp only [List.length_cons] at hl
    have s0 : f.length ≤ sizeLine := by have := size_big; omega
    have s1 : r.2.length ≤ sizeLine := by have := size_big; omega
    have b1 : -4611686018427387904 ≤ (f.length : Int) - r.2.length + 1 := by omega
    have b2 : (f.length : Int) - r.2.length + 1 < 4611686018427387904 := by omega
    simp [ub_undoings_of_2, wDef, env0, wEnds, wSeq, wIfS, wTst, wBin, wUse, wName, wC, wUn, wTup, wLst, waCons, waNil, wAsg, gVar, gTupD_mk, gsCons_mk, gsNil_mk, ex2, ex3, wRet, wRetN, wNext, wNever, wDrop, wFor, wiAny, wiRange1, wiRange2, wiEn, wCall, wNot, wAnd, wOr, wAndV, wOrV, wNotV, wIf, wTru, tru_non, tru_bl, tru_int, val_sh, val_lst, val_dT, val_dK, val_ins, intsD, fBl, fSub, fMul, fFdiv, fMod, fPow, fAddA_int, fAddA_form, fMulA_int, fIxA_rule0, fIxA_rule1, gT_rule, atI_c0, atI_c1, atI_c2, atI_c3, atI_c4, fLen, len_str, len_tup, len_slst, len_fz, len_lst, len_form, fInt, fIsA, isA_key, isA_ii, isA_is, isA_ib, isA_ss, wApp, wPar, wAugI, wChain, wYes, wipeE, wSl, woNone, woSome, fTupOf_tup, fTupOf_lst, fTupOf_slst, fTupOf_form, fLstOf, asL_slst, asL_lst, asR_slst, asR_fz, asR_lst, fMax, items_lst, items_fz, items_tup, items_form, items_str, wD0, wSetF, wFld, fields_ins, fields_sins, putFD, wMake, fIsN, fNotN, wDisp, wLc, wDcT, wGet2, isD_dT, isD_sdT, wPut, wForK, s0, s1, b1, b2]
    rw [rangeD0]
    refine und_l1 okf o1 hf o2 o3 _ out _ (by rw [List.length_range]; omega) fun x => ?_
    have hb := bsr_len n r f
    refine und_l2 okf hf rs (n + 1) (out ++ bsr n r f) _ _ _ _ (fun r' m => ok r' (by simp [m])) (by rw [List.length_append]; omega) fun y1 y2 y3 y4 => ?_
    have := h y1 y2 y3 y4
    simpa [befs] using this
theorem undoings_ok {al : Str} {v : Int} {rs : List Rl} {f : List Key} {P : OT → Prop} (ok : okGr al v rs) (okf : okF f = true) (hf : f.length ≤ 16) (h : P (.lst ((befs 0 rs f).map unD))) : φ_undoings_of [grD al v rs, formD f] P := by
  simp [φ_undoings_of, w_undoings_of, N_undoings_of, wDef, env0, wEnds, wSeq, wIfS, wTst, wBin, wUse, wName, wC, wUn, wTup, wLst, waCons, waNil, wAsg, gVar, gTupD_mk, gsCons_mk, gsNil_mk, ex2, ex3, wRet, wRetN, wNext, wNever, wDrop, wFor, wiAny, wiRange1, wiRange2, wiEn, wCall, wNot, wAnd, wOr, wAndV, wOrV, wNotV, wIf, wTru, tru_non, tru_bl, tru_int, val_sh, val_lst, val_dT, val_dK, val_ins, intsD, fBl, fSub, fMul, fFdiv, fMod, fPow, fAddA_int, fAddA_form, fMulA_int, fIxA_rule0, fIxA_rule1, gT_rule, atI_c0, atI_c1, atI_c2, atI_c3, atI_c4, fLen, len_str, len_tup, len_slst, len_fz, len_lst, len_form, fInt, fIsA, isA_key, isA_ii, isA_is, isA_ib, isA_ss, wApp, wPar, wAugI, wChain, wYes, wipeE, wSl, woNone, woSome, fTupOf_tup, fTupOf_lst, fTupOf_slst, fTupOf_form, fLstOf, asL_slst, asL_lst, asR_slst, asR_fz, asR_lst, fMax, items_lst, items_fz, items_tup, items_form, items_str, wD0, wSetF, wFld, fields_ins, fields_sins, putFD, wMake, fIsN, fNotN, wDisp, wLc, wDcT, wGet2, isD_dT, isD_sdT, wPut, wForK, fld_g, lk_r]
  refine und_l2 (out := []) okf hf rs 0 _ _ _ _ (fun r m => ⟨okF_syms ok.hal (ok.r r m).sr, (ok.r r m).ll, (ok.r r m).rl⟩) (by have := ok.n; have := size_big; simp; omega) fun x1 x2 x3 x4 => ?_
  simpa [wDef, env0, wEnds, wSeq, wIfS, wTst, wBin, wUse, wName, wC, wUn, wTup, wLst, waCons, waNil, wAsg, gVar, gTupD_mk, gsCons_mk, gsNil_mk, ex2, ex3, wRet, wRetN, wNext, wNever, wDrop, wFor, wiAny, wiRange1, wiRange2, wiEn, wCall, wNot, wAnd, wOr, wAndV, wOrV, wNotV, wIf, wTru, tru_non, tru_bl, tru_int, val_sh, val_lst, val_dT, val_dK, val_ins, intsD, fBl, fSub, fMul, fFdiv, fMod, fPow, fAddA_int, fAddA_form, fMulA_int, fIxA_rule0, fIxA_rule1, gT_rule, atI_c0, atI_c1, atI_c2, atI_c3, atI_c4, fLen, len_str, len_tup, len_slst, len_fz, len_lst, len_form, fInt, fIsA, isA_key, isA_ii, isA_is, isA_ib, isA_ss, wApp, wPar, wAugI, wChain, wYes, wipeE, wSl, woNone, woSome, fTupOf_tup, fTupOf_lst, fTupOf_slst, fTupOf_form, fLstOf, asL_slst, asL_lst, asR_slst, asR_fz, asR_lst, fMax, items_lst, items_fz, items_tup, items_form, items_str, wD0, wSetF, wFld, fields_ins, fields_sins, putFD, wMake, fIsN, fNotN, wDisp, wLc, wDcT, wGet2, isD_dT, isD_sdT, wPut, wForK] using h
end EW

set_option maxHeartbeats 4000000
/-! k70, plain: the law's own undoings, cells, digits. -/
namespace EW
open PySem PySem.Spec L2 EV
def rulesD (rs : List Rl) : D := .lst (rs.map ruleD)
theorem rule_at {pre suf : List Rl} {r : Rl} : atI ((pre ++ r :: suf).map ruleD) (pre.length : Int) = some (ruleD r) := by
  rw [atI_map, EV.atI_nat]
  simp
theorem lbef_l1 {pre suf : List Rl} {f : List Key} {r : Rl} {W : WEnds} (okf : okF f = true) (okr : okF r.2 = true) (hf : f.length ≤ 16) (hr1 : r.1.length ≤ 2) (hr2 : r.2.length ≤ 3) : ∀ (l : List Nat) (out : List Un) (x : Option OT), out.length + l.length < sizeLine →
    (∀ x, W.nx [some (.sh (rulesD (pre ++ r :: suf))), some (.sh (formD f)), some (.lst ((out ++ l.filterMap (bst pre.length r f)).map unL)), some (.sh (.int (pre.length : Nat))), some (.sh (formD r.2)), x]) →
    wLoop (gVar 5) b__law_befores_1 W (l.map fun i => .int (i : Nat)) [some (.sh (rulesD (pre ++ r :: suf))), some (.sh (formD f)), some (.lst (out.map unL)), some (.sh (.int (pre.length : Nat))), some (.sh (formD r.2)), x]
  | [], out, x, _, h => by
    have := h x
    simpa [wLoop] using this
  | p :: l, out, x, hl, h => by
    simp only [List.map_cons, wLoop]
    simp only [List.length_cons] at hl
    have s1 : r.2.length ≤ sizeLine := by have := size_big; omega
    have okc : okF (cutL f (some (p : Int)) (some ((p : Int) + r.2.length))) = true := okF_sub (cutL_sub _ _ _) okf
    have c1 := (cutL_sub f none (some (p : Int))).length_le
    have c2 := (cutL_sub f (some ((p : Int) + r.2.length)) none).length_le
    have s2 : (cutL f none (some (p : Int))).length + r.1.length ≤ sizeLine := by have := size_big; omega
    have s3 : (cutL f none (some (p : Int))).length + (r.1.length + (cutL f (some ((p : Int) + r.2.length)) none).length) ≤ sizeLine := by have := size_big; omega
    have s4 : (3 : Nat) ≤ sizeLine := by decide
    have s5 : out.length < sizeLine := by omega
    have ra : ∀ P : OT → Prop, fIxA (.sh (rulesD (pre ++ r :: suf))) (.sh (.int (pre.length : Nat))) P = P (.sh (ruleD r)) := fun P => by
      rw [rulesD, fIxA_slst, rule_at]
      simp
    simp only [ub__law_befores_1]
    by_cases z : 0 < r.2.length
    · by_cases c : cutL f (some (p : Int)) (some ((p : Int) + r.2.length)) = r.2
      · have hb : bst pre.length r f p = some (pre.length, p, cutL f none (some (p : Int)) ++ r.1 ++ cutL f (some ((p : Int) + r.2.length)) none) := by
          unfold bst; rw [if_pos ⟨z, c⟩]
        have e1 : ∀ P : OT → Prop, fEq (.sh (formD (cutL f (some (p : Int)) (some ((p : Int) + r.2.length))))) (.sh (formD r.2)) P = P (.sh (.bl true)) := fun P => by rw [fEq_form okc okr]; simp [c]
        simp [wDef, env0, wEnds, wSeq, wIfS, wTst, wBin, wUse, wName, wC, wUn, wTup, wLst, waCons, waNil, wAsg, gVar, gTupD_mk, gsCons_mk, gsNil_mk, ex2, ex3, wRet, wRetN, wNext, wNever, wDrop, wFor, wiAny, wiRange1, wiRange2, wiEn, wCall, wNot, wAnd, wOr, wAndV, wOrV, wNotV, wIf, wTru, tru_non, tru_bl, tru_int, val_sh, val_lst, val_dT, val_dK, val_ins, intsD, fBl, fSub, fMul, fFdiv, fMod, fPow, fAddA_int, fAddA_form, fMulA_int, fIxA_rule0, fIxA_rule1, gT_rule, atI_c0, atI_c1, atI_c2, atI_c3, atI_c4, fLen, len_str, len_tup, len_slst, len_fz, len_lst, len_form, fInt, fIsA, isA_key, isA_ii, isA_is, isA_ib, isA_ss, wApp, wPar, wAugI, wChain, wYes, wipeE, wSl, woNone, woSome, fTupOf_tup, fTupOf_lst, fTupOf_slst, fTupOf_form, fLstOf, asL_slst, asL_lst, asR_slst, asR_fz, asR_lst, fMax, items_lst, items_fz, items_tup, items_form, items_str, wD0, wSetF, wFld, fields_ins, fields_sins, putFD, wMake, fIsN, fNotN, wDisp, wLc, wDcT, wGet2, isD_dT, isD_sdT, wPut, wForK, s1, fSl_form, e1, z, s2, s4, s5, ra]
        have q := lbef_l1 (pre := pre) (suf := suf) (W := W) okf okr hf hr1 hr2 l (out ++ [(pre.length, p, cutL f none (some (p : Int)) ++ r.1 ++ cutL f (some ((p : Int) + r.2.length)) none)]) (some (.sh (.int (p : Nat)))) (by simp; omega) (by simpa [hb] using h)
        simp [unL] at q
        exact ⟨by omega, q⟩
      · have hb : bst pre.length r f p = none := by unfold bst; rw [if_neg (fun q => c q.2)]
        have q := lbef_l1 (pre := pre) (suf := suf) (W := W) okf okr hf hr1 hr2 l out (some (.sh (.int (p : Nat)))) (by omega) (by simpa [hb] using h)
        simp [wDef, env0, wEnds, wSeq, wIfS, wTst, wBin, wUse, wName, wC, wUn, wTup, wLst, waCons, waNil, wAsg, gVar, gTupD_mk, gsCons_mk, gsNil_mk, ex2, ex3, wRet, wRetN, wNext, wNever, wDrop, wFor, wiAny, wiRange1, wiRange2, wiEn, wCall, wNot, wAnd, wOr, wAndV, wOrV, wNotV, wIf, wTru, tru_non, tru_bl, tru_int, val_sh, val_lst, val_dT, val_dK, val_ins, intsD, fBl, fSub, fMul, fFdiv, fMod, fPow, fAddA_int, fAddA_form, fMulA_int, fIxA_rule0, fIxA_rule1, gT_rule, atI_c0, atI_c1, atI_c2, atI_c3, atI_c4, fLen, len_str, len_tup, len_slst, len_fz, len_lst, len_form, fInt, fIsA, isA_key, isA_ii, isA_is, isA_ib, isA_ss, wApp, wPar, wAugI, wChain, wYes, wipeE, wSl, woNone, woSome, fTupOf_tup, fTupOf_lst, fTupOf_slst, fTupOf_form, fLstOf, asL_slst, asL_lst, asR_slst, asR_fz, asR_lst, fMax, items_lst, items_fz, items_tup, items_form, items_str, wD0, wSetF, wFld, fields_ins, fields_sins, putFD, wMake, fIsN, fNotN, wDisp, wLc, wDcT, wGet2, isD_dT, isD_sdT, wPut, wForK, s1, fSl_form, fEq_form okc okr, z, c]
        exact q
    · have z' : r.2.length = 0 := by omega
      have hb : bst pre.length r f p = none := by unfold bst; rw [if_neg (fun q => z q.1)]
      have q := lbef_l1 (pre := pre) (suf := suf) (W := W) okf okr hf hr1 hr2 l out (some (.sh (.int (p : Nat)))) (by omega) (by simpa [hb] using h)
      simp [wDef, env0, wEnds, wSeq, wIfS, wTst, wBin, wUse, wName, wC, wUn, wTup, wLst, waCons, waNil, wAsg, gVar, gTupD_mk, gsCons_mk, gsNil_mk, ex2, ex3, wRet, wRetN, wNext, wNever, wDrop, wFor, wiAny, wiRange1, wiRange2, wiEn, wCall, wNot, wAnd, wOr, wAndV, wOrV, wNotV, wIf, wTru, tru_non, tru_bl, tru_int, val_sh, val_lst, val_dT, val_dK, val_ins, intsD, fBl, fSub, fMul, fFdiv, fMod, fPow, fAddA_int, fAddA_form, fMulA_int, fIxA_rule0, fIxA_rule1, gT_rule, atI_c0, atI_c1, atI_c2, atI_c3, atI_c4, fLen, len_str, len_tup, len_slst, len_fz, len_lst, len_form, fInt, fIsA, isA_key, isA_ii, isA_is, isA_ib, isA_ss, wApp, wPar, wAugI, wChain, wYes, wipeE, wSl, woNone, woSome, fTupOf_tup, fTupOf_lst, fTupOf_slst, fTupOf_form, fLstOf, asL_slst, asL_lst, asR_slst, asR_fz, asR_lst, fMax, items_lst, items_fz, items_tup, items_form, items_str, wD0, wSetF, wFld, fields_ins, fields_sins, putFD, wMake, fIsN, fNotN, wDisp, wLc, wDcT, wGet2, isD_dT, isD_sdT, wPut, wForK, s1, z']
      exact q
theorem lbef_l2 {f : List Key} {W : WEnds} (okf : okF f = true) (hf : f.length ≤ 16) : ∀ (suf pre : List Rl) (out : List Un) (x1 x2 x3 : Option OT), (∀ r ∈ suf, okF r.2 = true ∧ r.1.length ≤ 2 ∧ r.2.length ≤ 3) → out.length + suf.length * 17 < sizeLine →
    (∀ x1 x2 x3, W.nx [some (.sh (rulesD (pre ++ suf))), some (.sh (formD f)), some (.lst ((out ++ befs pre.length suf f).map unL)), x1, x2, x3]) →
    wLoop (gVar 3) b__law_befores_2 W ((List.range' pre.length suf.length).map fun i => .int (i : Nat)) [some (.sh (rulesD (pre ++ suf))), some (.sh (formD f)), some (.lst (out.map unL)), x1, x2, x3]
  | [], pre, out, x1, x2, x3, _, _, h => by
    have := h x1 x2 x3
    simpa [wLoop, befs] using this
  | r :: suf, pre, out, x1, x2, x3, ok, hl, h => by
    rw [List.length_cons, List.range'_succ, List.map_cons]
    simp only [wLoop]
    obtain ⟨o1, o2, o3⟩ := ok r (by simp)
    simp only [List.length_cons] at hl
    have s0 : f.length ≤ sizeLine := by have := size_big; omega
    have s1 : r.2.length ≤ sizeLine := by have := size_big; omega
    have b1 : -4611686018427387904 ≤ (f.length : Int) - r.2.length + 1 := by omega
    have b2 : (f.length : Int) - r.2.length + 1 < 4611686018427387904 := by omega
    have ra : ∀ P : OT → Prop, fIxA (.sh (rulesD (pre ++ r :: suf))) (.sh (.int (pre.length : Nat))) P = P (.sh (ruleD r)) := fun P => by
      rw [rulesD, fIxA_slst, rule_at]
      simp
    simp [ub__law_befores_2, wDef, env0, wEnds, wSeq, wIfS, wTst, wBin, wUse, wName, wC, wUn, wTup, wLst, waCons, waNil, wAsg, gVar, gTupD_mk, gsCons_mk, gsNil_mk, ex2, ex3, wRet, wRetN, wNext, wNever, wDrop, wFor, wiAny, wiRange1, wiRange2, wiEn, wCall, wNot, wAnd, wOr, wAndV, wOrV, wNotV, wIf, wTru, tru_non, tru_bl, tru_int, val_sh, val_lst, val_dT, val_dK, val_ins, intsD, fBl, fSub, fMul, fFdiv, fMod, fPow, fAddA_int, fAddA_form, fMulA_int, fIxA_rule0, fIxA_rule1, gT_rule, atI_c0, atI_c1, atI_c2, atI_c3, atI_c4, fLen, len_str, len_tup, len_slst, len_fz, len_lst, len_form, fInt, fIsA, isA_key, isA_ii, isA_is, isA_ib, isA_ss, wApp, wPar, wAugI, wChain, wYes, wipeE, wSl, woNone, woSome, fTupOf_tup, fTupOf_lst, fTupOf_slst, fTupOf_form, fLstOf, asL_slst, asL_lst, asR_slst, asR_fz, asR_lst, fMax, items_lst, items_fz, items_tup, items_form, items_str, wD0, wSetF, wFld, fields_ins, fields_sins, putFD, wMake, fIsN, fNotN, wDisp, wLc, wDcT, wGet2, isD_dT, isD_sdT, wPut, wForK, s0, s1, b1, b2, ra]
    rw [rangeD0]
    refine lbef_l1 okf o1 hf o2 o3 _ out _ (by rw [List.length_range]; omega) fun x => ?_
    have hb := bsr_len pre.length r f
    have q := lbef_l2 (W := W) okf hf suf (pre ++ [r]) (out ++ bsr pre.length r f) (some (.sh (.int (pre.length : Nat)))) (some (.sh (formD r.2))) x (fun r' m => ok r' (by simp [m])) (by rw [List.length_append]; omega) (fun y1 y2 y3 => by
      have := h y1 y2 y3
      simpa [befs] using this)
    simpa [bsr] using q
theorem lbef_ok {rs : List Rl} {f : List Key} {P : OT → Prop} (ok : ∀ r ∈ rs, okF r.2 = true ∧ r.1.length ≤ 2 ∧ r.2.length ≤ 3) (hn : rs.length ≤ 17) (okf : okF f = true) (hf : f.length ≤ 16) (h : P (.lst ((befs 0 rs f).map unL))) : φ__law_befores [rulesD rs, formD f] P := by
  have s0 : rs.length ≤ sizeLine := by have := size_big; omega
  have b1 : -4611686018427387904 ≤ (rs.length : Int) := by omega
  have b2 : (rs.length : Int) < 4611686018427387904 := by omega
  have el : (OT.sh (rulesD rs)).len = some rs.length := by simp [rulesD, OT.len]
  simp [φ__law_befores, w__law_befores, N__law_befores, wDef, env0, wEnds, wSeq, wIfS, wTst, wBin, wUse, wName, wC, wUn, wTup, wLst, waCons, waNil, wAsg, gVar, gTupD_mk, gsCons_mk, gsNil_mk, ex2, ex3, wRet, wRetN, wNext, wNever, wDrop, wFor, wiAny, wiRange1, wiRange2, wiEn, wCall, wNot, wAnd, wOr, wAndV, wOrV, wNotV, wIf, wTru, tru_non, tru_bl, tru_int, val_sh, val_lst, val_dT, val_dK, val_ins, intsD, fBl, fSub, fMul, fFdiv, fMod, fPow, fAddA_int, fAddA_form, fMulA_int, fIxA_rule0, fIxA_rule1, gT_rule, atI_c0, atI_c1, atI_c2, atI_c3, atI_c4, fLen, len_str, len_tup, len_slst, len_fz, len_lst, len_form, fInt, fIsA, isA_key, isA_ii, isA_is, isA_ib, isA_ss, wApp, wPar, wAugI, wChain, wYes, wipeE, wSl, woNone, woSome, fTupOf_tup, fTupOf_lst, fTupOf_slst, fTupOf_form, fLstOf, asL_slst, asL_lst, asR_slst, asR_fz, asR_lst, fMax, items_lst, items_fz, items_tup, items_form, items_str, wD0, wSetF, wFld, fields_ins, fields_sins, putFD, wMake, fIsN, fNotN, wDisp, wLc, wDcT, wGet2, isD_dT, isD_sdT, wPut, wForK, el, s0, b1, b2]
  rw [rangeD0, List.range_eq_range']
  refine lbef_l2 (out := []) okf hf rs [] _ _ _ ok (by have := size_big; simp; omega) fun x1 x2 x3 => ?_
  simpa [wDef, env0, wEnds, wSeq, wIfS, wTst, wBin, wUse, wName, wC, wUn, wTup, wLst, waCons, waNil, wAsg, gVar, gTupD_mk, gsCons_mk, gsNil_mk, ex2, ex3, wRet, wRetN, wNext, wNever, wDrop, wFor, wiAny, wiRange1, wiRange2, wiEn, wCall, wNot, wAnd, wOr, wAndV, wOrV, wNotV, wIf, wTru, tru_non, tru_bl, tru_int, val_sh, val_lst, val_dT, val_dK, val_ins, intsD, fBl, fSub, fMul, fFdiv, fMod, fPow, fAddA_int, fAddA_form, fMulA_int, fIxA_rule0, fIxA_rule1, gT_rule, atI_c0, atI_c1, atI_c2, atI_c3, atI_c4, fLen, len_str, len_tup, len_slst, len_fz, len_lst, len_form, fInt, fIsA, isA_key, isA_ii, isA_is, isA_ib, isA_ss, wApp, wPar, wAugI, wChain, wYes, wipeE, wSl, woNone, woSome, fTupOf_tup, fTupOf_lst, fTupOf_slst, fTupOf_form, fLstOf, asL_slst, asL_lst, asR_slst, asR_fz, asR_lst, fMax, items_lst, items_fz, items_tup, items_form, items_str, wD0, wSetF, wFld, fields_ins, fields_sins, putFD, wMake, fIsN, fNotN, wDisp, wLc, wDcT, wGet2, isD_dT, isD_sdT, wPut, wForK] using h
/-! ### cells -/
def intsL (ns : List Int) : List D := ns.map D.int
theorem cell_loop {S : OT} {k : Int} {W : WEnds} : ∀ (ns : List Int) (s : Int) (x : Option OT), 0 ≤ s → s < 1000003 → (∀ s x, 0 ≤ s → s < 1000003 → W.nx [some S, some (.sh (.int k)), some (.sh (.int s)), x]) →
    wLoop (gVar 3) b__law_cell_1 W (intsL ns) [some S, some (.sh (.int k)), some (.sh (.int s)), x]
  | [], s, x, h0, h1, h => h s x h0 h1
  | n :: ns, s, x, h0, h1, h => by
    simp only [intsL, List.map_cons, wLoop]
    have cm : CMul s 31 := .inr ⟨by decide, by decide⟩
    simp [ub__law_cell_1, wDef, env0, wEnds, wSeq, wIfS, wTst, wBin, wUse, wName, wC, wUn, wTup, wLst, waCons, waNil, wAsg, gVar, gTupD_mk, gsCons_mk, gsNil_mk, ex2, ex3, wRet, wRetN, wNext, wNever, wDrop, wFor, wiAny, wiRange1, wiRange2, wiEn, wCall, wNot, wAnd, wOr, wAndV, wOrV, wNotV, wIf, wTru, tru_non, tru_bl, tru_int, val_sh, val_lst, val_dT, val_dK, val_ins, intsD, fBl, fSub, fMul, fFdiv, fMod, fPow, fAddA_int, fAddA_form, fMulA_int, fIxA_rule0, fIxA_rule1, gT_rule, atI_c0, atI_c1, atI_c2, atI_c3, atI_c4, fLen, len_str, len_tup, len_slst, len_fz, len_lst, len_form, fInt, fIsA, isA_key, isA_ii, isA_is, isA_ib, isA_ss, wApp, wPar, wAugI, wChain, wYes, wipeE, wSl, woNone, woSome, fTupOf_tup, fTupOf_lst, fTupOf_slst, fTupOf_form, fLstOf, asL_slst, asL_lst, asR_slst, asR_fz, asR_lst, fMax, items_lst, items_fz, items_tup, items_form, items_str, wD0, wSetF, wFld, fields_ins, fields_sins, putFD, wMake, fIsN, fNotN, wDisp, wLc, wDcT, wGet2, isD_dT, isD_sdT, wPut, wForK, cm]
    have e : ∀ a : Int, 0 ≤ a.fmod 1000003 ∧ a.fmod 1000003 < 1000003 := fun a => ⟨Int.fmod_nonneg_of_pos a (by decide), Int.fmod_lt_of_pos a (by decide)⟩
    exact cell_loop ns _ _ (e _).1 (e _).2 h
theorem cell_ok {ns : List Int} {k : Nat} {P : OT → Prop} (hl : ns.length ≤ sizeLine) (hk : k < 16) (h : ∀ c : Int, P (.sh (.int c))) : φ__law_cell [.fz (intsL ns), .int (k : Nat)] P := by
  have el : (intsL ns).length = ns.length := by simp [intsL]
  simp [φ__law_cell, w__law_cell, N__law_cell, wDef, env0, wEnds, wSeq, wIfS, wTst, wBin, wUse, wName, wC, wUn, wTup, wLst, waCons, waNil, wAsg, gVar, gTupD_mk, gsCons_mk, gsNil_mk, ex2, ex3, wRet, wRetN, wNext, wNever, wDrop, wFor, wiAny, wiRange1, wiRange2, wiEn, wCall, wNot, wAnd, wOr, wAndV, wOrV, wNotV, wIf, wTru, tru_non, tru_bl, tru_int, val_sh, val_lst, val_dT, val_dK, val_ins, intsD, fBl, fSub, fMul, fFdiv, fMod, fPow, fAddA_int, fAddA_form, fMulA_int, fIxA_rule0, fIxA_rule1, gT_rule, atI_c0, atI_c1, atI_c2, atI_c3, atI_c4, fLen, len_str, len_tup, len_slst, len_fz, len_lst, len_form, fInt, fIsA, isA_key, isA_ii, isA_is, isA_ib, isA_ss, wApp, wPar, wAugI, wChain, wYes, wipeE, wSl, woNone, woSome, fTupOf_tup, fTupOf_lst, fTupOf_slst, fTupOf_form, fLstOf, asL_slst, asL_lst, asR_slst, asR_fz, asR_lst, fMax, items_lst, items_fz, items_tup, items_form, items_str, wD0, wSetF, wFld, fields_ins, fields_sins, putFD, wMake, fIsN, fNotN, wDisp, wLc, wDcT, wGet2, isD_dT, isD_sdT, wPut, wForK, el, hl]
  by_cases c : k < ns.length
  · refine .inr ⟨c, ?_⟩
    rw [fIxA_fz]
    refine ⟨.int ns[k], ?_, h _⟩
    rw [EV.atI_nat]
    simp [intsL, c]
  · refine .inl ⟨by omega, ?_⟩
    refine cell_loop ns 17 _ (by decide) (by decide) fun s x h0 h1 => ?_
    have cm : CMul (s + 7) (k + 3) := .inl ⟨by omega, by omega⟩
    have cm2 : CMul ((s + 7) * (k + 3)) 69621 := .inr ⟨by decide, by decide⟩
    simp [wDef, env0, wEnds, wSeq, wIfS, wTst, wBin, wUse, wName, wC, wUn, wTup, wLst, waCons, waNil, wAsg, gVar, gTupD_mk, gsCons_mk, gsNil_mk, ex2, ex3, wRet, wRetN, wNext, wNever, wDrop, wFor, wiAny, wiRange1, wiRange2, wiEn, wCall, wNot, wAnd, wOr, wAndV, wOrV, wNotV, wIf, wTru, tru_non, tru_bl, tru_int, val_sh, val_lst, val_dT, val_dK, val_ins, intsD, fBl, fSub, fMul, fFdiv, fMod, fPow, fAddA_int, fAddA_form, fMulA_int, fIxA_rule0, fIxA_rule1, gT_rule, atI_c0, atI_c1, atI_c2, atI_c3, atI_c4, fLen, len_str, len_tup, len_slst, len_fz, len_lst, len_form, fInt, fIsA, isA_key, isA_ii, isA_is, isA_ib, isA_ss, wApp, wPar, wAugI, wChain, wYes, wipeE, wSl, woNone, woSome, fTupOf_tup, fTupOf_lst, fTupOf_slst, fTupOf_form, fLstOf, asL_slst, asL_lst, asR_slst, asR_fz, asR_lst, fMax, items_lst, items_fz, items_tup, items_form, items_str, wD0, wSetF, wFld, fields_ins, fields_sins, putFD, wMake, fIsN, fNotN, wDisp, wLc, wDcT, wGet2, isD_dT, isD_sdT, wPut, wForK, cm, cm2, h]
theorem cell_ok0 {ns : List Int} {P : OT → Prop} (hl : ns.length ≤ sizeLine) (h : ∀ c : Int, P (.sh (.int c))) : φ__law_cell [.fz (intsL ns), .int 0] P := cell_ok (k := 0) hl (by decide) h
theorem cell_ok1 {ns : List Int} {P : OT → Prop} (hl : ns.length ≤ sizeLine) (h : ∀ c : Int, P (.sh (.int c))) : φ__law_cell [.fz (intsL ns), .int 1] P := cell_ok (k := 1) hl (by decide) h
theorem cell_ok2 {ns : List Int} {P : OT → Prop} (hl : ns.length ≤ sizeLine) (h : ∀ c : Int, P (.sh (.int c))) : φ__law_cell [.fz (intsL ns), .int 2] P := cell_ok (k := 2) hl (by decide) h
/-! ### digits -/
/-- a row: each under its size -/
inductive RowOk : List Int → List Int → Prop
  | nil : RowOk [] []
  | cons {r s : Int} {rs ss : List Int} : 0 ≤ r → r < s → RowOk rs ss → RowOk (r :: rs) (s :: ss)
theorem RowOk.snoc {r s : Int} : ∀ {rs ss : List Int}, RowOk rs ss → 0 ≤ r → r < s → RowOk (rs ++ [r]) (ss ++ [s])
  | _, _, .nil, h0, h1 => .cons h0 h1 .nil
  | _, _, .cons a b t, h0, h1 => .cons a b (t.snoc h0 h1)
theorem RowOk.length : ∀ {rs ss : List Int}, RowOk rs ss → rs.length = ss.length
  | _, _, .nil => rfl
  | _, _, .cons _ _ t => congrArg (· + 1) t.length
theorem digits_l1 {C SD : OT} {W : WEnds} : ∀ (ss : List Int) (done row : List Int) (rest : Int) (x1 x2 x3 x4 : Option OT), RowOk row done → (∀ s ∈ ss, 0 < s ∧ s < 1000000) → row.length + ss.length < sizeLine → (∀ row rest x1 x2 x3 x4, RowOk row (done ++ ss) → W.nx [some C, some SD, some (.lst (intsL row)), some (.sh (.int rest)), x1, x2, x3, x4]) →
    wLoop (gVar 6) b__law_digits_1 W (intsL ss) [some C, some SD, some (.lst (intsL row)), some (.sh (.int rest)), x1, x2, x3, x4]
  | [], done, row, rest, x1, x2, x3, x4, hr, _, _, h => h row rest x1 x2 x3 x4 (by simpa using hr)
  | s :: ss, done, row, rest, x1, x2, x3, x4, hr, hs, hl, h => by
    simp only [intsL, List.map_cons, wLoop]
    simp only [List.length_cons] at hl
    obtain ⟨p1, p2⟩ := hs s (by simp)
    have n0 : s ≠ 0 := by omega
    have cd : CDivN rest s := ⟨n0, by omega⟩
    have s5 : row.length < sizeLine := by omega
    simp [ub__law_digits_1, wDef, env0, wEnds, wSeq, wIfS, wTst, wBin, wUse, wName, wC, wUn, wTup, wLst, waCons, waNil, wAsg, gVar, gTupD_mk, gsCons_mk, gsNil_mk, ex2, ex3, wRet, wRetN, wNext, wNever, wDrop, wFor, wiAny, wiRange1, wiRange2, wiEn, wCall, wNot, wAnd, wOr, wAndV, wOrV, wNotV, wIf, wTru, tru_non, tru_bl, tru_int, val_sh, val_lst, val_dT, val_dK, val_ins, intsD, fBl, fSub, fMul, fFdiv, fMod, fPow, fAddA_int, fAddA_form, fMulA_int, fIxA_rule0, fIxA_rule1, gT_rule, atI_c0, atI_c1, atI_c2, atI_c3, atI_c4, fLen, len_str, len_tup, len_slst, len_fz, len_lst, len_form, fInt, fIsA, isA_key, isA_ii, isA_is, isA_ib, isA_ss, wApp, wPar, wAugI, wChain, wYes, wipeE, wSl, woNone, woSome, fTupOf_tup, fTupOf_lst, fTupOf_slst, fTupOf_form, fLstOf, asL_slst, asL_lst, asR_slst, asR_fz, asR_lst, fMax, items_lst, items_fz, items_tup, items_form, items_str, wD0, wSetF, wFld, fields_ins, fields_sins, putFD, wMake, fIsN, fNotN, wDisp, wLc, wDcT, wGet2, isD_dT, isD_sdT, wPut, wForK, n0, cd, s5]
    have q := digits_l1 (C := C) (SD := SD) (W := W) ss (done ++ [s]) (row ++ [rest.fmod s]) (rest.fdiv s) x1 x2 (some (.sh (.int s))) x4 (hr.snoc (Int.fmod_nonneg_of_pos rest p1) (Int.fmod_lt_of_pos rest p1)) (fun s' m => hs s' (by simp [m])) (by simp; omega) (fun row rest x1 x2 x3 x4 hr => h row rest x1 x2 x3 x4 (by simpa using hr))
    simpa [intsL] using q
end EW

set_option maxHeartbeats 4000000
/-! k70, plain: digits, drawn texts. -/
namespace EW
open PySem PySem.Spec L2 EV
theorem digits_l2 {C : OT} {rest : Int} {W : WEnds} : ∀ (suf pre row : List Int) (seed : Int) (x1 x2 x3 : Option OT), RowOk row pre → (∀ s ∈ suf, 0 < s ∧ s < 1000000) → row.length + suf.length < sizeLine → 0 ≤ seed → seed < 2147483647 →
    (∀ row x0 x1 x2 x3, RowOk row (pre ++ suf) → W.nx [some C, some (.sh (.lst (intsL (pre ++ suf)))), some (.lst (intsL row)), some (.sh (.int rest)), x0, x1, x2, x3]) →
    wLoop (gVar 5) b__law_digits_2 W ((List.range' pre.length suf.length).map fun i => .int (i : Nat)) [some C, some (.sh (.lst (intsL (pre ++ suf)))), some (.lst (intsL row)), some (.sh (.int rest)), some (.sh (.int seed)), x1, x2, x3]
  | [], pre, row, seed, x1, x2, x3, hr, _, _, _, _, h => by
    have := h row (some (.sh (.int seed))) x1 x2 x3 (by simpa using hr)
    simpa [wLoop] using this
  | s :: suf, pre, row, seed, x1, x2, x3, hr, hs, hl, h0, h1, h => by
    rw [List.length_cons, List.range'_succ, List.map_cons]
    simp only [wLoop]
    simp only [List.length_cons] at hl
    obtain ⟨p1, p2⟩ := hs s (by simp)
    have n0 : s ≠ 0 := by omega
    have s5 : row.length < sizeLine := by omega
    have cd1 : ∀ a, CDivN a 65537 := fun a => ⟨by decide, by decide⟩
    have cd2 : ∀ a, CDivN a 19 := fun a => ⟨by decide, by decide⟩
    have cm1 : ∀ a, CMul a 48271 := fun a => .inr ⟨by decide, by decide⟩
    have cm2 : ∀ a, CMul 974711 a := fun a => .inl ⟨by decide, by decide⟩
    have e : ∀ a : Int, 0 ≤ a.fmod 2147483647 ∧ a.fmod 2147483647 < 2147483647 := fun a => ⟨Int.fmod_nonneg_of_pos a (by decide), Int.fmod_lt_of_pos a (by decide)⟩
    have cm3 : ∀ a b : Int, CMul (a.fmod 2147483647) b := fun a b => .inl ⟨by have := (e a).1; omega, by have := (e a).2; omega⟩
    have at1 : atI (intsL (pre ++ s :: suf)) (pre.length : Int) = some (.int s) := by
      rw [EV.atI_nat]
      simp [intsL]
    have ra : ∀ P : OT → Prop, fIxA (.sh (.lst (intsL (pre ++ s :: suf)))) (.sh (.int (pre.length : Nat))) P = P (.sh (.int s)) := fun P => by
      rw [fIxA_slst, at1]
      simp
    simp [ub__law_digits_2, wDef, env0, wEnds, wSeq, wIfS, wTst, wBin, wUse, wName, wC, wUn, wTup, wLst, waCons, waNil, wAsg, gVar, gTupD_mk, gsCons_mk, gsNil_mk, ex2, ex3, wRet, wRetN, wNext, wNever, wDrop, wFor, wiAny, wiRange1, wiRange2, wiEn, wCall, wNot, wAnd, wOr, wAndV, wOrV, wNotV, wIf, wTru, tru_non, tru_bl, tru_int, val_sh, val_lst, val_dT, val_dK, val_ins, intsD, fBl, fSub, fMul, fFdiv, fMod, fPow, fAddA_int, fAddA_form, fMulA_int, fIxA_rule0, fIxA_rule1, gT_rule, atI_c0, atI_c1, atI_c2, atI_c3, atI_c4, fLen, len_str, len_tup, len_slst, len_fz, len_lst, len_form, fInt, fIsA, isA_key, isA_ii, isA_is, isA_ib, isA_ss, wApp, wPar, wAugI, wChain, wYes, wipeE, wSl, woNone, woSome, fTupOf_tup, fTupOf_lst, fTupOf_slst, fTupOf_form, fLstOf, asL_slst, asL_lst, asR_slst, asR_fz, asR_lst, fMax, items_lst, items_fz, items_tup, items_form, items_str, wD0, wSetF, wFld, fields_ins, fields_sins, putFD, wMake, fIsN, fNotN, wDisp, wLc, wDcT, wGet2, isD_dT, isD_sdT, wPut, wForK, cd1, cd2, cm1, cm2, cm3, ra, n0, s5]
    have q := digits_l2 (C := C) (rest := rest) (W := W) suf (pre ++ [s])
    have q2 := fun (r : Int) (seed x1 x2 x3) (hr0 : 0 ≤ r) (hr1 : r < s) (h0 : 0 ≤ seed) (h1 : seed < 2147483647) => q (row ++ [r]) seed x1 x2 x3 (hr.snoc hr0 hr1) (fun s' m => hs s' (by simp [m])) (by simp; omega) h0 h1 (fun row x0 x1 x2 x3 hr => by simpa using h row x0 x1 x2 x3 (by simpa using hr))
    simp [intsL] at q2
    simp [intsL, s5]
    exact q2 _ _ _ _ _ (Int.fmod_nonneg_of_pos _ p1) (Int.fmod_lt_of_pos _ p1) (e _).1 (e _).2
theorem digits_ok {c : Int} {ss : List Int} {P : OT → Prop} (hs : ∀ s ∈ ss, 0 < s ∧ s < 1000000) (hl : ss.length ≤ 1000) (h : ∀ row, RowOk row ss → P (.lst (intsL row))) : φ__law_digits [.int c, .lst (intsL ss)] P := by
  have s0 : ss.length < sizeLine := by have := size_big; omega
  have s1 : (intsL ss).length = ss.length := by simp [intsL]
  have s2 : ss.length ≤ sizeLine := by omega
  have b1 : -4611686018427387904 ≤ (ss.length : Int) := by omega
  have b2 : (ss.length : Int) < 4611686018427387904 := by omega
  have p1 : CPow 10 18 := ⟨by decide, by decide, by decide⟩
  have p2 : CPow 10 64 := ⟨by decide, by decide, by decide⟩
  simp [φ__law_digits, w__law_digits, N__law_digits, wDef, env0, wEnds, wSeq, wIfS, wTst, wBin, wUse, wName, wC, wUn, wTup, wLst, waCons, waNil, wAsg, gVar, gTupD_mk, gsCons_mk, gsNil_mk, ex2, ex3, wRet, wRetN, wNext, wNever, wDrop, wFor, wiAny, wiRange1, wiRange2, wiEn, wCall, wNot, wAnd, wOr, wAndV, wOrV, wNotV, wIf, wTru, tru_non, tru_bl, tru_int, val_sh, val_lst, val_dT, val_dK, val_ins, intsD, fBl, fSub, fMul, fFdiv, fMod, fPow, fAddA_int, fAddA_form, fMulA_int, fIxA_rule0, fIxA_rule1, gT_rule, atI_c0, atI_c1, atI_c2, atI_c3, atI_c4, fLen, len_str, len_tup, len_slst, len_fz, len_lst, len_form, fInt, fIsA, isA_key, isA_ii, isA_is, isA_ib, isA_ss, wApp, wPar, wAugI, wChain, wYes, wipeE, wSl, woNone, woSome, fTupOf_tup, fTupOf_lst, fTupOf_slst, fTupOf_form, fLstOf, asL_slst, asL_lst, asR_slst, asR_fz, asR_lst, fMax, items_lst, items_fz, items_tup, items_form, items_str, wD0, wSetF, wFld, fields_ins, fields_sins, putFD, wMake, fIsN, fNotN, wDisp, wLc, wDcT, wGet2, isD_dT, isD_sdT, wPut, wForK, fGeA_int, p1, p2, s1, s2, b1, b2]
  by_cases z : (1000000000000000000 : Int) ≤ c
  · refine .inr ⟨z, ?_⟩
    refine digits_l1 (row := []) ss [] _ _ _ _ _ .nil hs (by simpa using s0) fun row rest x1 x2 x3 x4 hr => ?_
    simpa [wDef, env0, wEnds, wSeq, wIfS, wTst, wBin, wUse, wName, wC, wUn, wTup, wLst, waCons, waNil, wAsg, gVar, gTupD_mk, gsCons_mk, gsNil_mk, ex2, ex3, wRet, wRetN, wNext, wNever, wDrop, wFor, wiAny, wiRange1, wiRange2, wiEn, wCall, wNot, wAnd, wOr, wAndV, wOrV, wNotV, wIf, wTru, tru_non, tru_bl, tru_int, val_sh, val_lst, val_dT, val_dK, val_ins, intsD, fBl, fSub, fMul, fFdiv, fMod, fPow, fAddA_int, fAddA_form, fMulA_int, fIxA_rule0, fIxA_rule1, gT_rule, atI_c0, atI_c1, atI_c2, atI_c3, atI_c4, fLen, len_str, len_tup, len_slst, len_fz, len_lst, len_form, fInt, fIsA, isA_key, isA_ii, isA_is, isA_ib, isA_ss, wApp, wPar, wAugI, wChain, wYes, wipeE, wSl, woNone, woSome, fTupOf_tup, fTupOf_lst, fTupOf_slst, fTupOf_form, fLstOf, asL_slst, asL_lst, asR_slst, asR_fz, asR_lst, fMax, items_lst, items_fz, items_tup, items_form, items_str, wD0, wSetF, wFld, fields_ins, fields_sins, putFD, wMake, fIsN, fNotN, wDisp, wLc, wDcT, wGet2, isD_dT, isD_sdT, wPut, wForK] using h row (by simpa using hr)
  · refine .inl ⟨by omega, ?_⟩
    rw [rangeD0, List.range_eq_range']
    refine digits_l2 (row := []) ss [] _ _ _ _ .nil hs (by simpa using s0) (Int.fmod_nonneg_of_pos _ (by decide)) (by have := Int.fmod_lt_of_pos c (show (0 : Int) < 2147483629 by decide); omega) fun row x0 x1 x2 x3 hr => ?_
    simpa [wDef, env0, wEnds, wSeq, wIfS, wTst, wBin, wUse, wName, wC, wUn, wTup, wLst, waCons, waNil, wAsg, gVar, gTupD_mk, gsCons_mk, gsNil_mk, ex2, ex3, wRet, wRetN, wNext, wNever, wDrop, wFor, wiAny, wiRange1, wiRange2, wiEn, wCall, wNot, wAnd, wOr, wAndV, wOrV, wNotV, wIf, wTru, tru_non, tru_bl, tru_int, val_sh, val_lst, val_dT, val_dK, val_ins, intsD, fBl, fSub, fMul, fFdiv, fMod, fPow, fAddA_int, fAddA_form, fMulA_int, fIxA_rule0, fIxA_rule1, gT_rule, atI_c0, atI_c1, atI_c2, atI_c3, atI_c4, fLen, len_str, len_tup, len_slst, len_fz, len_lst, len_form, fInt, fIsA, isA_key, isA_ii, isA_is, isA_ib, isA_ss, wApp, wPar, wAugI, wChain, wYes, wipeE, wSl, woNone, woSome, fTupOf_tup, fTupOf_lst, fTupOf_slst, fTupOf_form, fLstOf, asL_slst, asL_lst, asR_slst, asR_fz, asR_lst, fMax, items_lst, items_fz, items_tup, items_form, items_str, wD0, wSetF, wFld, fields_ins, fields_sins, putFD, wMake, fIsN, fNotN, wDisp, wLc, wDcT, wGet2, isD_dT, isD_sdT, wPut, wForK] using h row (by simpa using hr)
/-! ### texts -/
def txt (cs : List Nat) : Str := ⟨cs.toArray⟩
def lets (cs : List Nat) : List Key := cs.map fun c => .inr ⟨#[c]⟩
theorem joinL_single : ∀ cs : List Nat, TL.joinL [] (cs.map fun c => [c]) = cs
  | [] => rfl
  | [c] => rfl
  | c :: d :: r => by
    have := joinL_single (d :: r)
    simp only [List.map_cons] at this ⊢
    simp only [TL.joinL, this]
    rfl
end EW

set_option maxHeartbeats 4000000
/-! k70, plain: the drawn text. -/
namespace EW
open PySem PySem.Spec L2 EV
theorem join_txt (cs : List Nat) : Txt.join ("" : Str) (cs.map fun c => (⟨#[c]⟩ : Str)) = txt cs := by
  rw [TL.join_eq]
  have h := TL.tl_join ("" : Str) (cs.map fun c => (⟨#[c]⟩ : Str))
  have e : (List.map (fun (x : Str) => x.cps.toList) (cs.map fun c => (⟨#[c]⟩ : Str))) = cs.map fun c => [c] := by simp
  have e0 : (("" : Str).cps.toList : List Nat) = [] := rfl
  simp only [TL.tl] at h
  rw [e, e0, joinL_single] at h
  generalize hx : Str.join ("" : Str) (cs.map fun c => (⟨#[c]⟩ : Str)) = x at h ⊢
  obtain ⟨x⟩ := x
  have h' : x.toList = cs := h
  unfold txt
  rw [← h']
theorem strs_len (cs : List Nat) : ((cs.map fun c => (⟨#[c]⟩ : Str)).map (·.length)).sum = cs.length := by
  induction cs with
  | nil => rfl
  | cons c cs ih =>
    simp only [List.map_cons, List.sum_cons, ih, List.length_cons]
    have : (⟨#[c]⟩ : Str).length = 1 := rfl
    omega
theorem fJoin_lets {cs : List Nat} {t : OT} {P : OT → Prop} (hl : cs.length ≤ 1000) (ht : t.asR = some ((lets cs).map keyD)) (h : P (.sh (.str (txt cs)))) : fJoin (.sh (.str ("" : Str))) t P := by
  refine ⟨("" : Str), cs.map fun c => ⟨#[c]⟩, rfl, .inl ?_, ?_, ?_⟩
  · rw [ht]
    simp [lets, textsD, keyD]
  · rw [strs_len]
    have : ("" : Str).length = 0 := rfl
    rw [this]
    omega
  · rw [join_txt]
    exact h
theorem lets_append (a b : List Nat) : lets (a ++ b) = lets a ++ lets b := by simp [lets]
theorem text_lc {al : List Nat} {row : List Int} {z : D} {R : OT → Env' → Prop} (ha : 0 < al.length) (hal : al.length ≤ 100) : ∀ (l : List Nat) (acc : List Nat), (∀ i ∈ l, i < row.length) → (∀ c ∈ acc, c ∈ al) → acc.length + l.length ≤ 1000 →
    (∀ cs, cs.length = acc.length + l.length → (∀ c ∈ cs, c ∈ al) → R (.lst ((lets cs).map keyD)) [some (.sh (.str (txt al))), some (.sh (.lst (intsL row))), some (.sh z), none]) →
    lcLoop [3] (gVar 3) wYes e__law_text_1 R (l.map fun i => .int (i : Nat)) ((lets acc).map keyD) [some (.sh (.str (txt al))), some (.sh (.lst (intsL row))), some (.sh z), none]
  | [], acc, _, hc, _, h => h acc (by simp) hc
  | i :: l, acc, hi, hc, hl, h => by
    simp only [List.map_cons, lcLoop]
    simp only [List.length_cons] at hl
    have hr : i < row.length := hi i (by simp)
    have a1 : atI (intsL row) (i : Int) = some (.int row[i]) := by
      rw [EV.atI_nat]; simp [intsL, hr]
    have hal2 : (txt al).length = al.length := by simp [txt, lenStr]
    have s1 : al.length ≤ sizeLine := by have := size_big; omega
    have pos : (0 : Int) < al.length := by omega
    obtain ⟨c, c1, c2⟩ := atI_lt al (Int.fmod_nonneg_of_pos row[i] pos) (Int.fmod_lt_of_pos row[i] pos)
    have hm : c ∈ al := List.mem_of_getElem? c2
    have nz : al ≠ [] := fun z => by rw [z] at ha; simp at ha
    have nz2 : ¬ (al.length : Int) = 0 := by omega
    have tl : (txt al).cps.toList = al := by simp [txt]
    simp [ue__law_text_1, wDef, env0, wEnds, wSeq, wIfS, wTst, wBin, wUse, wName, wC, wUn, wTup, wLst, waCons, waNil, wAsg, gVar, gTupD_mk, gsCons_mk, gsNil_mk, ex2, ex3, wRet, wRetN, wNext, wNever, wDrop, wFor, wiAny, wiRange1, wiRange2, wiEn, wCall, wNot, wAnd, wOr, wAndV, wOrV, wNotV, wIf, wTru, tru_non, tru_bl, tru_int, val_sh, val_lst, val_dT, val_dK, val_ins, intsD, fBl, fSub, fMul, fFdiv, fMod, fPow, fAddA_int, fAddA_form, fMulA_int, fIxA_rule0, fIxA_rule1, gT_rule, atI_c0, atI_c1, atI_c2, atI_c3, atI_c4, fLen, len_str, len_tup, len_slst, len_fz, len_lst, len_form, fInt, fIsA, isA_key, isA_ii, isA_is, isA_ib, isA_ss, wApp, wPar, wAugI, wChain, wYes, wipeE, wSl, woNone, woSome, fTupOf_tup, fTupOf_lst, fTupOf_slst, fTupOf_form, fLstOf, asL_slst, asL_lst, asR_slst, asR_fz, asR_lst, fMax, items_lst, items_fz, items_tup, items_form, items_str, wD0, wSetF, wFld, fields_ins, fields_sins, putFD, wMake, fIsN, fNotN, wDisp, wLc, wDcT, wGet2, isD_dT, isD_sdT, wPut, wForK, fIxA_slst, a1, hal2, s1, fIxA_str, tl, c1, nz, nz2]
    have s2 : acc.length < sizeLine := by have := size_big; omega
    refine ⟨by simpa [lets] using s2, ?_⟩
    have q := text_lc (z := z) (R := R) ha hal l (acc ++ [c]) (fun j m => hi j (by simp [m])) (fun d m => by
      rcases List.mem_append.mp m with m | m
      · exact hc d m
      · simp at m; rw [m]; exact hm) (by simp; omega) (fun cs h1 h2 => h cs (by simp at h1 ⊢; omega) h2)
    simpa [lets, keyD, List.set] using q
theorem law_text_ok {al : List Nat} {row : List Int} {n : Nat} {P : OT → Prop} (ha : 0 < al.length) (hal : al.length ≤ 100) (hn : n ≤ row.length) (hn2 : n ≤ 100) (h : ∀ cs, cs.length = n → (∀ c ∈ cs, c ∈ al) → P (.sh (.str (txt cs)))) :
    φ__law_text [.str (txt al), .lst (intsL row), .int (n : Nat)] P := by
  have b1 : -4611686018427387904 ≤ (n : Int) := by omega
  have b2 : (n : Int) < 4611686018427387904 := by omega
  simp [φ__law_text, w__law_text, N__law_text, wDef, env0, wEnds, wSeq, wIfS, wTst, wBin, wUse, wName, wC, wUn, wTup, wLst, waCons, waNil, wAsg, gVar, gTupD_mk, gsCons_mk, gsNil_mk, ex2, ex3, wRet, wRetN, wNext, wNever, wDrop, wFor, wiAny, wiRange1, wiRange2, wiEn, wCall, wNot, wAnd, wOr, wAndV, wOrV, wNotV, wIf, wTru, tru_non, tru_bl, tru_int, val_sh, val_lst, val_dT, val_dK, val_ins, intsD, fBl, fSub, fMul, fFdiv, fMod, fPow, fAddA_int, fAddA_form, fMulA_int, fIxA_rule0, fIxA_rule1, gT_rule, atI_c0, atI_c1, atI_c2, atI_c3, atI_c4, fLen, len_str, len_tup, len_slst, len_fz, len_lst, len_form, fInt, fIsA, isA_key, isA_ii, isA_is, isA_ib, isA_ss, wApp, wPar, wAugI, wChain, wYes, wipeE, wSl, woNone, woSome, fTupOf_tup, fTupOf_lst, fTupOf_slst, fTupOf_form, fLstOf, asL_slst, asL_lst, asR_slst, asR_fz, asR_lst, fMax, items_lst, items_fz, items_tup, items_form, items_str, wD0, wSetF, wFld, fields_ins, fields_sins, putFD, wMake, fIsN, fNotN, wDisp, wLc, wDcT, wGet2, isD_dT, isD_sdT, wPut, wForK, wJoin, b1, b2]
  rw [rangeD0]
  refine text_lc (acc := []) ha hal _ (fun i m => by have := List.mem_range.mp m; omega) (by simp) (by simp; omega) fun cs h1 h2 => ?_
  refine fJoin_lets (by simp at h1; omega) rfl ?_
  exact h cs (by simpa using h1) h2
/-! ### a rule used forwards -/
theorem rule_atN {rs : List Rl} {i : Nat} (hi : i < rs.length) (P : OT → Prop) : fIxA (.sh (rulesD rs)) (.sh (.int (i : Nat))) P = P (.sh (ruleD rs[i])) := by
  rw [rulesD, fIxA_slst, atI_map, EV.atI_nat]
  simp [hi]
theorem rewrite_ok {al : Str} {v : Int} {rs : List Rl} {f : List Key} {i p : Nat} {P : OT → Prop} (ha : okAl al) (hr : ∀ r ∈ rs, okRule al v r) (hf : ∀ k ∈ f, okSym al v k) (hfl : f.length ≤ 16) (hn : rs.length ≤ 16) (hi : i < rs.length) (h0 : P (.sh .non)) (h1 : ∀ g : List Key, (∀ k ∈ g, okSym al v k) → g.length ≤ 40 → P (.sh (formD g))) :
    φ__law_rewrite [rulesD rs, formD f, .int (i : Nat), .int (p : Nat)] P := by
  have ok := hr rs[i] (List.getElem_mem hi)
  have s0 : rs.length ≤ sizeLine := by have := size_big; omega
  have el : (OT.sh (rulesD rs)).len = some rs.length := by simp [rulesD, OT.len]
  have n1 : ¬ ((i : Int) < 0) := by omega
  have n2 : ¬ ((rs.length : Int) ≤ (i : Int)) := by omega
  have n3 : ¬ ((p : Int) < 0) := by omega
  have s1 : rs[i].1.length ≤ sizeLine := by have := ok.ll; have := size_big; omega
  have okc : ∀ lo hi, okF (cutL f lo hi) = true := fun lo hi => okF_sub (cutL_sub _ _ _) (okF_syms ha hf)
  have okl := okF_syms ha ok.sl
  have c1 := (cutL_sub f none (some (p : Int))).length_le
  have c2 := (cutL_sub f (some ((p : Int) + rs[i].1.length)) none).length_le
  have r3 := ok.rl
  have s2 : (cutL f none (some (p : Int))).length + rs[i].2.length ≤ sizeLine := by have := size_big; omega
  have s3 : (cutL f none (some (p : Int))).length + (rs[i].2.length + (cutL f (some ((p : Int) + rs[i].1.length)) none).length) ≤ sizeLine := by have := size_big; omega
  simp [φ__law_rewrite, w__law_rewrite, N__law_rewrite, wDef, env0, wEnds, wSeq, wIfS, wTst, wBin, wUse, wName, wC, wUn, wTup, wLst, waCons, waNil, wAsg, gVar, gTupD_mk, gsCons_mk, gsNil_mk, ex2, ex3, wRet, wRetN, wNext, wNever, wDrop, wFor, wiAny, wiRange1, wiRange2, wiEn, wCall, wNot, wAnd, wOr, wAndV, wOrV, wNotV, wIf, wTru, tru_non, tru_bl, tru_int, val_sh, val_lst, val_dT, val_dK, val_ins, intsD, fBl, fSub, fMul, fFdiv, fMod, fPow, fAddA_int, fAddA_form, fMulA_int, fIxA_rule0, fIxA_rule1, gT_rule, atI_c0, atI_c1, atI_c2, atI_c3, atI_c4, fLen, len_str, len_tup, len_slst, len_fz, len_lst, len_form, fInt, fIsA, isA_key, isA_ii, isA_is, isA_ib, isA_ss, wApp, wPar, wAugI, wChain, wYes, wipeE, wSl, woNone, woSome, fTupOf_tup, fTupOf_lst, fTupOf_slst, fTupOf_form, fLstOf, asL_slst, asL_lst, asR_slst, asR_fz, asR_lst, fMax, items_lst, items_fz, items_tup, items_form, items_str, wD0, wSetF, wFld, fields_ins, fields_sins, putFD, wMake, fIsN, fNotN, wDisp, wLc, wDcT, wGet2, isD_dT, isD_sdT, wPut, wForK, el, s0, fGeA_int, n1, n2, n3, rule_atN hi, s1, fSl_form, fNe_form (okc _ _) okl]
  have fin : P (.sh (formD (cutL f none (some (p : Int)) ++ (rs[i].2 ++ cutL f (some ((p : Int) + rs[i].1.length)) none)))) := h1 _ (fun k m => by
    rcases List.mem_append.mp m with m | m
    · exact hf k ((cutL_sub _ _ _).subset m)
    · rcases List.mem_append.mp m with m | m
      · exact ok.sr k m
      · exact hf k ((cutL_sub _ _ _).subset m)) (by simp only [List.length_append]; omega)
  by_cases c : cutL f (some (p : Int)) (some ((p : Int) + rs[i].1.length)) = rs[i].1
  · simp [c, s2, s3, hi, h0, fin]
    omega
  · simp [c, h0, hi]
end EW

set_option maxHeartbeats 4000000
/-! k70, plain: a text by derivation. -/
namespace EW
open PySem PySem.Spec L2 EV
/-- a form of the drawn grammar's -/
structure okForm (al : Str) (v : Int) (f : List Key) : Prop where
  sy : ∀ k ∈ f, okSym al v k
  p : 0 < f.length
  l : f.length ≤ 3
theorem form_ne_non (f : List Key) : (formD f = .non) = False := by simp [formD]
theorem non_ne_form (f : List Key) : (D.non = formD f) = False := by simp [formD]
def drawnD (al : Str) (v : Int) (rs : List Rl) : D := .lst [.str al, .int v, rulesD rs]
theorem drawn_at2 (al : Str) (v : Int) (rs : List Rl) (P : OT → Prop) : fIxA (.sh (drawnD al v rs)) (.sh (.int 2)) P = P (.sh (rulesD rs)) := by simp [drawnD, fIxA_slst, atI_c2]
theorem drawn_at0 (al : Str) (v : Int) (rs : List Rl) (P : OT → Prop) : fIxA (.sh (drawnD al v rs)) (.sh (.int 0)) P = P (.sh (.str al)) := by simp [drawnD, fIxA_slst, atI_c0]
theorem drawn_at1 (al : Str) (v : Int) (rs : List Rl) (P : OT → Prop) : fIxA (.sh (drawnD al v rs)) (.sh (.int 1)) P = P (.sh (.int v)) := by simp [drawnD, fIxA_slst, atI_c1]
section
variable {al : Str} {v : Int} {rs : List Rl} {RD KD : OT}
theorem by_l1 {f : List Key} {i : Nat} {W : WEnds} (ha : okAl al) (hr : ∀ r ∈ rs, okRule al v r) (hn : rs.length ≤ 16) (hf : okForm al v f) (hi : i < rs.length) : ∀ (l : List Nat) (ws : List (List Key)) (x1 x2 x3 x4 : Option OT), (∀ w ∈ ws, okForm al v w) → ws.length + l.length < 1000 →
    (∀ (ws' : List (List Key)) x1 x2 x3 x4, (∀ w ∈ ws', okForm al v w) → ws'.length ≤ ws.length + l.length → W.nx [some (.sh (drawnD al v rs)), some RD, some (.sh (formD f)), some KD, some (.lst (ws'.map formD)), some (.sh (.int (i : Nat))), x1, x2, x3, x4]) →
    wLoop (gVar 6) b__law_text_by_1 W (l.map fun i => .int (i : Nat)) [some (.sh (drawnD al v rs)), some RD, some (.sh (formD f)), some KD, some (.lst (ws.map formD)), some (.sh (.int (i : Nat))), x1, x2, x3, x4]
  | [], ws, x1, x2, x3, x4, hw, _, h => h ws x1 x2 x3 x4 hw (by simp)
  | p :: l, ws, x1, x2, x3, x4, hw, hl, h => by
    simp only [List.map_cons, wLoop]
    simp only [List.length_cons] at hl
    have next := fun (ws2 : List (List Key)) (hw2 : ∀ w ∈ ws2, okForm al v w) (hl2 : ws2.length ≤ ws.length + 1) y1 y2 y3 y4 => by_l1 (W := W) ha hr hn hf hi l ws2 y1 y2 y3 y4 hw2 (by omega) (fun ws' z1 z2 z3 z4 h1 h2 => h ws' z1 z2 z3 z4 h1 (by simp only [List.length_cons]; omega))
    simp [ub__law_text_by_1, wDef, env0, wEnds, wSeq, wIfS, wTst, wBin, wUse, wName, wC, wUn, wTup, wLst, waCons, waNil, wAsg, gVar, gTupD_mk, gsCons_mk, gsNil_mk, ex2, ex3, wRet, wRetN, wNext, wNever, wDrop, wFor, wiAny, wiRange1, wiRange2, wiEn, wCall, wNot, wAnd, wOr, wAndV, wOrV, wNotV, wIf, wTru, tru_non, tru_bl, tru_int, val_sh, val_lst, val_dT, val_dK, val_ins, intsD, fBl, fSub, fMul, fFdiv, fMod, fPow, fAddA_int, fAddA_form, fMulA_int, fIxA_rule0, fIxA_rule1, gT_rule, atI_c0, atI_c1, atI_c2, atI_c3, atI_c4, fLen, len_str, len_tup, len_slst, len_fz, len_lst, len_form, fInt, fIsA, isA_key, isA_ii, isA_is, isA_ib, isA_ss, wApp, wPar, wAugI, wChain, wYes, wipeE, wSl, woNone, woSome, fTupOf_tup, fTupOf_lst, fTupOf_slst, fTupOf_form, fLstOf, asL_slst, asL_lst, asR_slst, asR_fz, asR_lst, fMax, items_lst, items_fz, items_tup, items_form, items_str, wD0, wSetF, wFld, fields_ins, fields_sins, putFD, wMake, fIsN, fNotN, wDisp, wLc, wDcT, wGet2, isD_dT, isD_sdT, wPut, wForK, drawn_at2]
    refine rewrite_ok ha hr hf.sy (by have := hf.l; omega) hn hi ?_ ?_
    · simp [val_sh]
      exact next ws hw (by omega) _ _ _ _
    · intro g hg hgl
      have s1 : g.length ≤ sizeLine := by have := size_big; omega
      have s2 : ws.length < sizeLine := by have := size_big; omega
      simp [form_ne_non, s1, val_sh, len_form]
      by_cases c1 : 0 < g.length
      · by_cases c2 : g.length ≤ 3
        · have c2' : (g.length : Int) ≤ 3 := by omega
          have c1' : ¬ g = [] := fun z => by rw [z] at c1; simp at c1
          have q := next (ws ++ [g]) (fun w m => by
            rcases List.mem_append.mp m with m | m
            · exact hw w m
            · simp at m; rw [m]; exact ⟨hg, c1, c2⟩) (by simp) (some (.sh (.int (p : Nat)))) (some (.sh (formD g))) x3 x4
          simp [c1, c1', c2', s2]
          simpa using q
        · have c2' : ¬ (g.length : Int) ≤ 3 := by omega
          have c1' : ¬ g = [] := fun z => by rw [z] at c1; simp at c1
          have q := next ws hw (by omega) (some (.sh (.int (p : Nat)))) (some (.sh (formD g))) x3 x4
          simp [c1, c1', c2']
          exact q
      · have c1' : g = [] := List.length_eq_zero_iff.mp (by omega)
        subst c1'
        have q := next ws hw (by omega) (some (.sh (.int (p : Nat)))) (some (.sh (formD []))) x3 x4
        simp
        exact q
theorem by_l2 {f : List Key} {W : WEnds} (ha : okAl al) (hr : ∀ r ∈ rs, okRule al v r) (hn : rs.length ≤ 16) (hf : okForm al v f) : ∀ (l : List Nat) (ws : List (List Key)) (x0 x1 x2 x3 x4 : Option OT), (∀ i ∈ l, i < rs.length) → (∀ w ∈ ws, okForm al v w) → ws.length + l.length * 3 < 100 →
    (∀ (ws' : List (List Key)) x0 x1 x2 x3 x4, (∀ w ∈ ws', okForm al v w) → ws'.length < 100 → W.nx [some (.sh (drawnD al v rs)), some RD, some (.sh (formD f)), some KD, some (.lst (ws'.map formD)), x0, x1, x2, x3, x4]) →
    wLoop (gVar 5) b__law_text_by_2 W (l.map fun i => .int (i : Nat)) [some (.sh (drawnD al v rs)), some RD, some (.sh (formD f)), some KD, some (.lst (ws.map formD)), x0, x1, x2, x3, x4]
  | [], ws, x0, x1, x2, x3, x4, _, hw, hl, h => h ws x0 x1 x2 x3 x4 hw (by simpa using hl)
  | i :: l, ws, x0, x1, x2, x3, x4, hi, hw, hl, h => by
    simp only [List.map_cons, wLoop]
    simp only [List.length_cons] at hl
    have hfl := hf.l
    have s0 : f.length ≤ sizeLine := by have := size_big; omega
    have b1 : -4611686018427387904 ≤ (f.length : Int) := by omega
    have b2 : (f.length : Int) < 4611686018427387904 := by omega
    simp [ub__law_text_by_2, wDef, env0, wEnds, wSeq, wIfS, wTst, wBin, wUse, wName, wC, wUn, wTup, wLst, waCons, waNil, wAsg, gVar, gTupD_mk, gsCons_mk, gsNil_mk, ex2, ex3, wRet, wRetN, wNext, wNever, wDrop, wFor, wiAny, wiRange1, wiRange2, wiEn, wCall, wNot, wAnd, wOr, wAndV, wOrV, wNotV, wIf, wTru, tru_non, tru_bl, tru_int, val_sh, val_lst, val_dT, val_dK, val_ins, intsD, fBl, fSub, fMul, fFdiv, fMod, fPow, fAddA_int, fAddA_form, fMulA_int, fIxA_rule0, fIxA_rule1, gT_rule, atI_c0, atI_c1, atI_c2, atI_c3, atI_c4, fLen, len_str, len_tup, len_slst, len_fz, len_lst, len_form, fInt, fIsA, isA_key, isA_ii, isA_is, isA_ib, isA_ss, wApp, wPar, wAugI, wChain, wYes, wipeE, wSl, woNone, woSome, fTupOf_tup, fTupOf_lst, fTupOf_slst, fTupOf_form, fLstOf, asL_slst, asL_lst, asR_slst, asR_fz, asR_lst, fMax, items_lst, items_fz, items_tup, items_form, items_str, wD0, wSetF, wFld, fields_ins, fields_sins, putFD, wMake, fIsN, fNotN, wDisp, wLc, wDcT, wGet2, isD_dT, isD_sdT, wPut, wForK, s0, b1, b2]
    rw [rangeD0]
    refine by_l1 ha hr hn hf (hi i (by simp)) _ ws _ _ _ _ hw (by rw [List.length_range]; omega) fun ws' y1 y2 y3 y4 h1 h2 => ?_
    rw [List.length_range] at h2
    exact by_l2 ha hr hn hf l ws' _ _ _ _ _ (fun j m => hi j (by simp [m])) h1 (by omega) h
theorem by_lcV {a0 a1 a2 a3 a4 a5 a6 a7 a9 : Option OT} {R : OT → Env' → Prop} : ∀ (f acc : List Key), acc.length + f.length < 1000 →
    R (.lst ((acc ++ f.filter isV).map keyD)) [a0, a1, a2, a3, a4, a5, a6, a7, none, a9] →
    lcLoop [8] (gVar 8) t__law_text_by_4 e__law_text_by_3 R (f.map keyD) (acc.map keyD) [a0, a1, a2, a3, a4, a5, a6, a7, none, a9]
  | [], acc, _, h => by simpa [lcLoop] using h
  | k :: f, acc, hl, h => by
    simp only [List.map_cons, lcLoop]
    simp only [List.length_cons] at hl
    have s2 : acc.length < sizeLine := by have := size_big; omega
    cases k with
    | inl i =>
      have q := by_lcV (a0 := a0) (a1 := a1) (a2 := a2) (a3 := a3) (a4 := a4) (a5 := a5) (a6 := a6) (a7 := a7) (a9 := a9) (R := R) f (acc ++ [.inl i]) (by simp; omega) (by simpa [List.filter_cons, isV] using h)
      simp [ut__law_text_by_4, ue__law_text_by_3, wDef, env0, wEnds, wSeq, wIfS, wTst, wBin, wUse, wName, wC, wUn, wTup, wLst, waCons, waNil, wAsg, gVar, gTupD_mk, gsCons_mk, gsNil_mk, ex2, ex3, wRet, wRetN, wNext, wNever, wDrop, wFor, wiAny, wiRange1, wiRange2, wiEn, wCall, wNot, wAnd, wOr, wAndV, wOrV, wNotV, wIf, wTru, tru_non, tru_bl, tru_int, val_sh, val_lst, val_dT, val_dK, val_ins, intsD, fBl, fSub, fMul, fFdiv, fMod, fPow, fAddA_int, fAddA_form, fMulA_int, fIxA_rule0, fIxA_rule1, gT_rule, atI_c0, atI_c1, atI_c2, atI_c3, atI_c4, fLen, len_str, len_tup, len_slst, len_fz, len_lst, len_form, fInt, fIsA, isA_key, isA_ii, isA_is, isA_ib, isA_ss, wApp, wPar, wAugI, wChain, wYes, wipeE, wSl, woNone, woSome, fTupOf_tup, fTupOf_lst, fTupOf_slst, fTupOf_form, fLstOf, asL_slst, asL_lst, asR_slst, asR_fz, asR_lst, fMax, items_lst, items_fz, items_tup, items_form, items_str, wD0, wSetF, wFld, fields_ins, fields_sins, putFD, wMake, fIsN, fNotN, wDisp, wLc, wDcT, wGet2, isD_dT, isD_sdT, wPut, wForK, isV, s2, keyD, List.set]
      simpa [keyD] using q
    | inr x =>
      have q := by_lcV (a0 := a0) (a1 := a1) (a2 := a2) (a3 := a3) (a4 := a4) (a5 := a5) (a6 := a6) (a7 := a7) (a9 := a9) (R := R) f acc (by omega) (by simpa [List.filter_cons, isV] using h)
      simp [ut__law_text_by_4, ue__law_text_by_3, wDef, env0, wEnds, wSeq, wIfS, wTst, wBin, wUse, wName, wC, wUn, wTup, wLst, waCons, waNil, wAsg, gVar, gTupD_mk, gsCons_mk, gsNil_mk, ex2, ex3, wRet, wRetN, wNext, wNever, wDrop, wFor, wiAny, wiRange1, wiRange2, wiEn, wCall, wNot, wAnd, wOr, wAndV, wOrV, wNotV, wIf, wTru, tru_non, tru_bl, tru_int, val_sh, val_lst, val_dT, val_dK, val_ins, intsD, fBl, fSub, fMul, fFdiv, fMod, fPow, fAddA_int, fAddA_form, fMulA_int, fIxA_rule0, fIxA_rule1, gT_rule, atI_c0, atI_c1, atI_c2, atI_c3, atI_c4, fLen, len_str, len_tup, len_slst, len_fz, len_lst, len_form, fInt, fIsA, isA_key, isA_ii, isA_is, isA_ib, isA_ss, wApp, wPar, wAugI, wChain, wYes, wipeE, wSl, woNone, woSome, fTupOf_tup, fTupOf_lst, fTupOf_slst, fTupOf_form, fLstOf, asL_slst, asL_lst, asR_slst, asR_fz, asR_lst, fMax, items_lst, items_fz, items_tup, items_form, items_str, wD0, wSetF, wFld, fields_ins, fields_sins, putFD, wMake, fIsN, fNotN, wDisp, wLc, wDcT, wGet2, isD_dT, isD_sdT, wPut, wForK, isV, s2, keyD, List.set]
      exact q
theorem by_lcA {a0 a1 a2 a3 a4 a5 a6 a7 a8 : Option OT} {R : OT → Env' → Prop} : ∀ (f acc : List Key), acc.length + f.length < 1000 →
    R (.lst ((acc ++ f).map keyD)) [a0, a1, a2, a3, a4, a5, a6, a7, a8, none] →
    lcLoop [9] (gVar 9) wYes e__law_text_by_5 R (f.map keyD) (acc.map keyD) [a0, a1, a2, a3, a4, a5, a6, a7, a8, none]
  | [], acc, _, h => by simpa [lcLoop] using h
  | k :: f, acc, hl, h => by
    simp only [List.map_cons, lcLoop]
    simp only [List.length_cons] at hl
    have s2 : acc.length < sizeLine := by have := size_big; omega
    have q := by_lcA (a0 := a0) (a1 := a1) (a2 := a2) (a3 := a3) (a4 := a4) (a5 := a5) (a6 := a6) (a7 := a7) (a8 := a8) (R := R) f (acc ++ [k]) (by simp; omega) (by simpa using h)
    simp [ue__law_text_by_5, wDef, env0, wEnds, wSeq, wIfS, wTst, wBin, wUse, wName, wC, wUn, wTup, wLst, waCons, waNil, wAsg, gVar, gTupD_mk, gsCons_mk, gsNil_mk, ex2, ex3, wRet, wRetN, wNext, wNever, wDrop, wFor, wiAny, wiRange1, wiRange2, wiEn, wCall, wNot, wAnd, wOr, wAndV, wOrV, wNotV, wIf, wTru, tru_non, tru_bl, tru_int, val_sh, val_lst, val_dT, val_dK, val_ins, intsD, fBl, fSub, fMul, fFdiv, fMod, fPow, fAddA_int, fAddA_form, fMulA_int, fIxA_rule0, fIxA_rule1, gT_rule, atI_c0, atI_c1, atI_c2, atI_c3, atI_c4, fLen, len_str, len_tup, len_slst, len_fz, len_lst, len_form, fInt, fIsA, isA_key, isA_ii, isA_is, isA_ib, isA_ss, wApp, wPar, wAugI, wChain, wYes, wipeE, wSl, woNone, woSome, fTupOf_tup, fTupOf_lst, fTupOf_slst, fTupOf_form, fLstOf, asL_slst, asL_lst, asR_slst, asR_fz, asR_lst, fMax, items_lst, items_fz, items_tup, items_form, items_str, wD0, wSetF, wFld, fields_ins, fields_sins, putFD, wMake, fIsN, fNotN, wDisp, wLc, wDcT, wGet2, isD_dT, isD_sdT, wPut, wForK, s2, List.set]
    simpa using q
end
end EW

set_option maxHeartbeats 4000000
/-! k70, plain: a text by derivation, the whole. -/
namespace EW
open PySem PySem.Spec L2 EV
theorem lets_of {al : Str} {v : Int} : ∀ {f : List Key}, (∀ k ∈ f, okSym al v k) → f.filter isV = [] → ∃ cs, f = lets cs ∧ ∀ c ∈ cs, c ∈ al.cps.toList
  | [], _, _ => ⟨[], rfl, by simp⟩
  | .inl i :: f, _, h => by simp [List.filter_cons, isV] at h
  | .inr x :: f, ok, h => by
    obtain ⟨c, rfl, hc⟩ := ok (.inr x) (by simp)
    obtain ⟨cs, e, hm⟩ := lets_of (f := f) (fun k m => ok k (by simp [m])) (by simpa [List.filter_cons, isV] using h)
    exact ⟨c :: cs, by rw [e]; rfl, fun d m => by
      rcases List.mem_cons.mp m with m | m
      · rw [m]; exact hc
      · exact hm d m⟩
theorem lets_len (cs : List Nat) : (lets cs).length = cs.length := by simp [lets]
section
variable {al : Str} {v : Int} {rs : List Rl} {row : List Int}
theorem by_l3 {W : WEnds} (ha : okAl al) (hr : ∀ r ∈ rs, okRule al v r) (hn : rs.length ≤ 16) (hrow : 11 ≤ row.length) : ∀ (l : List Nat) (f : List Key) (x3 x4 x5 x6 x7 x8 x9 : Option OT), (∀ i ∈ l, i < 9) → okForm al v f →
    (∀ cs, 0 < cs.length → cs.length ≤ 3 → (∀ c ∈ cs, c ∈ al.cps.toList) → W.rt (.sh (.str (txt cs)))) →
    (∀ x2 x3 x4 x5 x6 x7 x8 x9, W.nx [some (.sh (drawnD al v rs)), some (.sh (.lst (intsL row))), x2, x3, x4, x5, x6, x7, x8, x9]) →
    wLoop (gVar 3) b__law_text_by_6 W (l.map fun i => .int (i : Nat)) [some (.sh (drawnD al v rs)), some (.sh (.lst (intsL row))), some (.sh (formD f)), x3, x4, x5, x6, x7, x8, x9]
  | [], f, x3, x4, x5, x6, x7, x8, x9, _, _, _, h => h _ x3 x4 x5 x6 x7 x8 x9
  | k :: l, f, x3, x4, x5, x6, x7, x8, x9, hl, hf, hrt, h => by
    simp only [List.map_cons, wLoop]
    have hk : k < 9 := hl k (by simp)
    have s0 : rs.length ≤ sizeLine := by have := size_big; omega
    have el : (OT.sh (rulesD rs)).len = some rs.length := by simp [rulesD, OT.len]
    have b1 : -4611686018427387904 ≤ (rs.length : Int) := by omega
    have b2 : (rs.length : Int) < 4611686018427387904 := by omega
    simp [ub__law_text_by_6, wDef, env0, wEnds, wSeq, wIfS, wTst, wBin, wUse, wName, wC, wUn, wTup, wLst, waCons, waNil, wAsg, gVar, gTupD_mk, gsCons_mk, gsNil_mk, ex2, ex3, wRet, wRetN, wNext, wNever, wDrop, wFor, wiAny, wiRange1, wiRange2, wiEn, wCall, wNot, wAnd, wOr, wAndV, wOrV, wNotV, wIf, wTru, tru_non, tru_bl, tru_int, val_sh, val_lst, val_dT, val_dK, val_ins, intsD, fBl, fSub, fMul, fFdiv, fMod, fPow, fAddA_int, fAddA_form, fMulA_int, fIxA_rule0, fIxA_rule1, gT_rule, atI_c0, atI_c1, atI_c2, atI_c3, atI_c4, fLen, len_str, len_tup, len_slst, len_fz, len_lst, len_form, fInt, fIsA, isA_key, isA_ii, isA_is, isA_ib, isA_ss, wApp, wPar, wAugI, wChain, wYes, wipeE, wSl, woNone, woSome, fTupOf_tup, fTupOf_lst, fTupOf_slst, fTupOf_form, fLstOf, asL_slst, asL_lst, asR_slst, asR_fz, asR_lst, fMax, items_lst, items_fz, items_tup, items_form, items_str, wD0, wSetF, wFld, fields_ins, fields_sins, putFD, wMake, fIsN, fNotN, wDisp, wLc, wDcT, wGet2, isD_dT, isD_sdT, wPut, wForK, drawn_at2, el, s0, b1, b2]
    rw [rangeD0]
    refine by_l2 (ws := []) ha hr hn hf _ _ _ _ _ _ (fun i m => List.mem_range.mp m) (by simp) (by simp; omega) fun ws y0 y1 y2 y3 y4 hw hwl => ?_
    have s1 : ws.length ≤ sizeLine := by have := size_big; omega
    simp [wDef, env0, wEnds, wSeq, wIfS, wTst, wBin, wUse, wName, wC, wUn, wTup, wLst, waCons, waNil, wAsg, gVar, gTupD_mk, gsCons_mk, gsNil_mk, ex2, ex3, wRet, wRetN, wNext, wNever, wDrop, wFor, wiAny, wiRange1, wiRange2, wiEn, wCall, wNot, wAnd, wOr, wAndV, wOrV, wNotV, wIf, wTru, tru_non, tru_bl, tru_int, val_sh, val_lst, val_dT, val_dK, val_ins, intsD, fBl, fSub, fMul, fFdiv, fMod, fPow, fAddA_int, fAddA_form, fMulA_int, fIxA_rule0, fIxA_rule1, gT_rule, atI_c0, atI_c1, atI_c2, atI_c3, atI_c4, fLen, len_str, len_tup, len_slst, len_fz, len_lst, len_form, fInt, fIsA, isA_key, isA_ii, isA_is, isA_ib, isA_ss, wApp, wPar, wAugI, wChain, wYes, wipeE, wSl, woNone, woSome, fTupOf_tup, fTupOf_lst, fTupOf_slst, fTupOf_form, fLstOf, asL_slst, asL_lst, asR_slst, asR_fz, asR_lst, fMax, items_lst, items_fz, items_tup, items_form, items_str, wD0, wSetF, wFld, fields_ins, fields_sins, putFD, wMake, fIsN, fNotN, wDisp, wLc, wDcT, wGet2, isD_dT, isD_sdT, wPut, wForK, s1, fEq_int]
    by_cases z : ws = []
    · subst z
      simp
      exact h _ _ _ _ _ _ _ _
    · have wp : 0 < ws.length := List.length_pos_iff.mpr z
      have z1 : ¬ (ws.length : Int) = 0 := by omega
      have hk1 : k < row.length := by omega
      have hk2 : k + 1 < row.length := by omega
      have r1 : ∀ P : OT → Prop, fIxA (.sh (.lst (intsL row))) (.sh (.int (k : Nat))) P = P (.sh (.int row[k])) := fun P => by
        rw [fIxA_slst, intsL, atI_map, EV.atI_nat]; simp [hk1]
      have r2 : ∀ P : OT → Prop, fIxA (.sh (.lst (intsL row))) (.sh (.int ((k : Int) + 1))) P = P (.sh (.int row[k + 1])) := fun P => by
        rw [show ((k : Int) + 1) = ((k + 1 : Nat) : Int) from rfl, fIxA_slst, intsL, atI_map, EV.atI_nat]; simp [hk2]
      have cm : ∀ a, CMul a 7 := fun a => .inr ⟨by decide, by decide⟩
      have wp' : (0 : Int) < ws.length := by omega
      obtain ⟨g, g1, g2⟩ := atI_lt ws (Int.fmod_nonneg_of_pos (row[k] * 7 + row[k + 1]) wp') (Int.fmod_lt_of_pos (row[k] * 7 + row[k + 1]) wp')
      have hg : okForm al v g := hw g (List.mem_of_getElem? g2)
      have ra : ∀ P : OT → Prop, fIxA (.lst (ws.map formD)) (.sh (.int ((row[k] * 7 + row[k + 1]).fmod ws.length))) P = P (.sh (formD g)) := fun P => by
        rw [fIxA_lst, atI_map, g1]; simp
      simp [wDef, env0, wEnds, wSeq, wIfS, wTst, wBin, wUse, wName, wC, wUn, wTup, wLst, waCons, waNil, wAsg, gVar, gTupD_mk, gsCons_mk, gsNil_mk, ex2, ex3, wRet, wRetN, wNext, wNever, wDrop, wFor, wiAny, wiRange1, wiRange2, wiEn, wCall, wNot, wAnd, wOr, wAndV, wOrV, wNotV, wIf, wTru, tru_non, tru_bl, tru_int, val_sh, val_lst, val_dT, val_dK, val_ins, intsD, fBl, fSub, fMul, fFdiv, fMod, fPow, fAddA_int, fAddA_form, fMulA_int, fIxA_rule0, fIxA_rule1, gT_rule, atI_c0, atI_c1, atI_c2, atI_c3, atI_c4, fLen, len_str, len_tup, len_slst, len_fz, len_lst, len_form, fInt, fIsA, isA_key, isA_ii, isA_is, isA_ib, isA_ss, wApp, wPar, wAugI, wChain, wYes, wipeE, wSl, woNone, woSome, fTupOf_tup, fTupOf_lst, fTupOf_slst, fTupOf_form, fLstOf, asL_slst, asL_lst, asR_slst, asR_fz, asR_lst, fMax, items_lst, items_fz, items_tup, items_form, items_str, wD0, wSetF, wFld, fields_ins, fields_sins, putFD, wMake, fIsN, fNotN, wDisp, wLc, wDcT, wGet2, isD_dT, isD_sdT, wPut, wForK, z, z1, r1, r2, cm, ra]
      refine by_lcV (acc := []) g (by have := hg.l; simp; omega) ?_
      have gl := hg.l
      have s2 : (g.filter isV).length ≤ sizeLine := by have := List.length_filter_le isV g; have := size_big; omega
      simp [len_lst, s2, fEq_int]
      by_cases q : g.filter isV = []
      · obtain ⟨cs, rfl, hc⟩ := lets_of hg.sy q
        rw [lets_len] at gl
        have gp := hg.p
        rw [lets_len] at gp
        simp [wJoin, wDef, env0, wEnds, wSeq, wIfS, wTst, wBin, wUse, wName, wC, wUn, wTup, wLst, waCons, waNil, wAsg, gVar, gTupD_mk, gsCons_mk, gsNil_mk, ex2, ex3, wRet, wRetN, wNext, wNever, wDrop, wFor, wiAny, wiRange1, wiRange2, wiEn, wCall, wNot, wAnd, wOr, wAndV, wOrV, wNotV, wIf, wTru, tru_non, tru_bl, tru_int, val_sh, val_lst, val_dT, val_dK, val_ins, intsD, fBl, fSub, fMul, fFdiv, fMod, fPow, fAddA_int, fAddA_form, fMulA_int, fIxA_rule0, fIxA_rule1, gT_rule, atI_c0, atI_c1, atI_c2, atI_c3, atI_c4, fLen, len_str, len_tup, len_slst, len_fz, len_lst, len_form, fInt, fIsA, isA_key, isA_ii, isA_is, isA_ib, isA_ss, wApp, wPar, wAugI, wChain, wYes, wipeE, wSl, woNone, woSome, fTupOf_tup, fTupOf_lst, fTupOf_slst, fTupOf_form, fLstOf, asL_slst, asL_lst, asR_slst, asR_fz, asR_lst, fMax, items_lst, items_fz, items_tup, items_form, items_str, wD0, wSetF, wFld, fields_ins, fields_sins, putFD, wMake, fIsN, fNotN, wDisp, wLc, wDcT, wGet2, isD_dT, isD_sdT, wPut, wForK]
        refine .inr ⟨fun a m => by
          obtain ⟨c, _, rfl⟩ := List.mem_map.mp m
          rfl, ?_⟩
        refine by_lcA (acc := []) (lets cs) (by simp [lets_len]; omega) ?_
        refine fJoin_lets (by omega) rfl ?_
        exact hrt cs gp gl hc
      · have q' : ¬ ((g.filter isV).length : Int) = 0 := fun z => q (List.length_eq_zero_iff.mp (by omega))
        have nx := by_l3 (W := W) ha hr hn hrow l g (some (.sh (.int (k : Nat)))) (some (.lst (ws.map formD))) y0 y1 y2 none y4 (fun i m => hl i (by simp [m])) hg hrt h
        refine .inl ⟨?_, nx⟩
        obtain ⟨x, hx⟩ := List.exists_mem_of_ne_nil _ q
        have := List.mem_filter.mp hx
        exact ⟨x, this.1, this.2⟩
end
theorem text_by_ok {al : List Nat} {v : Int} {rs : List Rl} {row : List Int} {P : OT → Prop} (ha : okAl (txt al)) (hr : ∀ r ∈ rs, okRule (txt al) v r) (hv : 0 < v) (hn : rs.length ≤ 16) (hrow : 11 ≤ row.length) (h : ∀ cs, 0 < cs.length → cs.length ≤ 3 → (∀ c ∈ cs, c ∈ al) → P (.sh (.str (txt cs)))) :
    φ__law_text_by [drawnD (txt al) v rs, .lst (intsL row)] P := by
  have tl : (txt al).cps.toList = al := by simp [txt]
  have al0 : 0 < al.length ∧ al.length ≤ 100 := by
    rcases ha with e | e
    · have : al = [97, 98] := by rw [← tl, e]; rfl
      rw [this]; decide
    · have : al = [97] := by rw [← tl, e]; rfl
      rw [this]; decide
  have f0 : okForm (txt al) v [.inl 0] := ⟨fun k m => by simp at m; rw [m]; exact ⟨by decide, hv⟩, by decide, by decide⟩
  have e0 : (D.tup [.int 0]) = formD [.inl 0] := rfl
  have r9 : rangeD 0 9 = (List.range 9).map fun i => .int (i : Nat) := rangeD0 9
  have s1 : (1 : Nat) ≤ sizeLine := by decide
  simp [φ__law_text_by, w__law_text_by, N__law_text_by, wDef, env0, wEnds, wSeq, wIfS, wTst, wBin, wUse, wName, wC, wUn, wTup, wLst, waCons, waNil, wAsg, gVar, gTupD_mk, gsCons_mk, gsNil_mk, ex2, ex3, wRet, wRetN, wNext, wNever, wDrop, wFor, wiAny, wiRange1, wiRange2, wiEn, wCall, wNot, wAnd, wOr, wAndV, wOrV, wNotV, wIf, wTru, tru_non, tru_bl, tru_int, val_sh, val_lst, val_dT, val_dK, val_ins, intsD, fBl, fSub, fMul, fFdiv, fMod, fPow, fAddA_int, fAddA_form, fMulA_int, fIxA_rule0, fIxA_rule1, gT_rule, atI_c0, atI_c1, atI_c2, atI_c3, atI_c4, fLen, len_str, len_tup, len_slst, len_fz, len_lst, len_form, fInt, fIsA, isA_key, isA_ii, isA_is, isA_ib, isA_ss, wApp, wPar, wAugI, wChain, wYes, wipeE, wSl, woNone, woSome, fTupOf_tup, fTupOf_lst, fTupOf_slst, fTupOf_form, fLstOf, asL_slst, asL_lst, asR_slst, asR_fz, asR_lst, fMax, items_lst, items_fz, items_tup, items_form, items_str, wD0, wSetF, wFld, fields_ins, fields_sins, putFD, wMake, fIsN, fNotN, wDisp, wLc, wDcT, wGet2, isD_dT, isD_sdT, wPut, wForK, s1, e0, r9]
  refine by_l3 ha hr hn hrow (List.range 9) [.inl 0] _ _ _ _ _ _ _ (fun i m => List.mem_range.mp m) f0 (fun cs h1 h2 h3 => h cs h1 h2 (by rw [tl] at h3; exact h3)) fun x2 x3 x4 x5 x6 x7 x8 x9 => ?_
  have h9 : 9 < row.length := by omega
  have ra : ∀ P : OT → Prop, fIxA (.sh (.lst (intsL row))) (.sh (.int 9)) P = P (.sh (.int row[9])) := fun P => by
    rw [show (9 : Int) = ((9 : Nat) : Int) from rfl, fIxA_slst, intsL, atI_map, EV.atI_nat]; simp [h9]
  simp [wDef, env0, wEnds, wSeq, wIfS, wTst, wBin, wUse, wName, wC, wUn, wTup, wLst, waCons, waNil, wAsg, gVar, gTupD_mk, gsCons_mk, gsNil_mk, ex2, ex3, wRet, wRetN, wNext, wNever, wDrop, wFor, wiAny, wiRange1, wiRange2, wiEn, wCall, wNot, wAnd, wOr, wAndV, wOrV, wNotV, wIf, wTru, tru_non, tru_bl, tru_int, val_sh, val_lst, val_dT, val_dK, val_ins, intsD, fBl, fSub, fMul, fFdiv, fMod, fPow, fAddA_int, fAddA_form, fMulA_int, fIxA_rule0, fIxA_rule1, gT_rule, atI_c0, atI_c1, atI_c2, atI_c3, atI_c4, fLen, len_str, len_tup, len_slst, len_fz, len_lst, len_form, fInt, fIsA, isA_key, isA_ii, isA_is, isA_ib, isA_ss, wApp, wPar, wAugI, wChain, wYes, wipeE, wSl, woNone, woSome, fTupOf_tup, fTupOf_lst, fTupOf_slst, fTupOf_form, fLstOf, asL_slst, asL_lst, asR_slst, asR_fz, asR_lst, fMax, items_lst, items_fz, items_tup, items_form, items_str, wD0, wSetF, wFld, fields_ins, fields_sins, putFD, wMake, fIsN, fNotN, wDisp, wLc, wDcT, wGet2, isD_dT, isD_sdT, wPut, wForK, drawn_at0, ra]
  have m0 := Int.fmod_nonneg_of_pos row[9] (show (0 : Int) < 3 by decide)
  have m1 := Int.fmod_lt_of_pos row[9] (show (0 : Int) < 3 by decide)
  obtain ⟨n, hn'⟩ : ∃ n : Nat, row[9].fmod 3 + 1 = (n : Int) := ⟨(row[9].fmod 3 + 1).toNat, by omega⟩
  rw [show (1 : Int) + Int.fmod row[9] 3 = (n : Int) by omega]
  refine law_text_ok al0.1 al0.2 (by omega) (by omega) fun cs h1 h2 => h cs (by omega) (by omega) h2
end EW

set_option maxHeartbeats 4000000
/-! k70, plain: the drawn grammar. -/
namespace EW
open PySem PySem.Spec L2 EV
/-- right, and of kind 3 without the empty rule -/
def okR3 (al : Str) (v : Int) (r : Rl) : Prop := okRule al v r ∧ r.1.length ≤ r.2.length
def ltr (c : Nat) : Key := .inr ⟨#[c]⟩
def LL (c1 c2 : Nat) : List (List Key) := [[.inl 0], [.inl 1], [.inl 1, ltr c1], [ltr c1, .inl 1], [.inl 0, .inl 1], [.inl 1, .inl 1], [ltr c2, .inl 1]]
def SY (c1 c2 : Nat) (v : Int) : List Key := [ltr c1, ltr c2, .inl 0, .inl 1, .inl (v - 1), .inl 1]
theorem okltr {al : Str} {v : Int} {c : Nat} (h : c ∈ al.cps.toList) : okSym al v (ltr c) := ⟨c, rfl, h⟩
theorem okLL {al : Str} {v : Int} {c1 c2 : Nat} {l : List Key} (h1 : c1 ∈ al.cps.toList) (h2 : c2 ∈ al.cps.toList) (hv : 2 ≤ v) (h : l ∈ LL c1 c2) : (∀ k ∈ l, okSym al v k) ∧ (∃ k ∈ l, isV k = true) ∧ 1 ≤ l.length ∧ l.length ≤ 2 := by
  have z0 : okSym al v (.inl 0) := ⟨by decide, by omega⟩
  have z1 : okSym al v (.inl 1) := ⟨by decide, by omega⟩
  have a1 := okltr (v := v) h1
  have a2 := okltr (v := v) h2
  simp only [LL, List.mem_cons, List.mem_nil_iff, or_false] at h
  rcases h with rfl | rfl | rfl | rfl | rfl | rfl | rfl
  · exact ⟨by simpa using z0, ⟨.inl 0, by simp, rfl⟩, by decide, by decide⟩
  · exact ⟨by simpa using z1, ⟨.inl 1, by simp, rfl⟩, by decide, by decide⟩
  · exact ⟨by simpa using ⟨z1, a1⟩, ⟨.inl 1, by simp, rfl⟩, by simp, by simp⟩
  · exact ⟨by simpa using ⟨a1, z1⟩, ⟨.inl 1, by simp, rfl⟩, by simp, by simp⟩
  · exact ⟨by simpa using ⟨z0, z1⟩, ⟨.inl 1, by simp, rfl⟩, by simp, by simp⟩
  · exact ⟨by simpa using z1, ⟨.inl 1, by simp, rfl⟩, by simp, by simp⟩
  · exact ⟨by simpa using ⟨a2, z1⟩, ⟨.inl 1, by simp, rfl⟩, by simp, by simp⟩
theorem okSY {al : Str} {v : Int} {c1 c2 : Nat} {k : Key} (h1 : c1 ∈ al.cps.toList) (h2 : c2 ∈ al.cps.toList) (hv : 2 ≤ v) (h : k ∈ SY c1 c2 v) : okSym al v k := by
  have z0 : okSym al v (.inl 0) := ⟨by decide, by omega⟩
  have z1 : okSym al v (.inl 1) := ⟨by decide, by omega⟩
  have z2 : okSym al v (.inl (v - 1)) := ⟨by omega, by omega⟩
  simp only [SY, List.mem_cons, List.mem_nil_iff, or_false] at h
  rcases h with rfl | rfl | rfl | rfl | rfl | rfl
  · exact okltr h1
  · exact okltr h2
  · exact z0
  · exact z1
  · exact z2
  · exact z1
theorem pick {α : Type} (xs : List α) {i : Int} {n : Nat} (e : xs.length = n) (h0 : 0 ≤ i) (h1 : i < n) : ∃ d ∈ xs, atI xs i = some d := by
  obtain ⟨d, a, b⟩ := atI_lt xs h0 (by omega)
  exact ⟨d, List.mem_of_getElem? b, a⟩
theorem cutL_to {α : Type} (xs : List α) {m : Int} (h : 0 ≤ m) : cutL xs none (some m) = xs.take m.toNat := by
  have e : m = ((m.toNat : Nat) : Int) := by omega
  unfold cutL
  rw [HT.sIx_none]
  have e2 : HT.sIx xs.length xs.length (some m) = min m.toNat xs.length := by
    conv => lhs; rw [e]
    exact HT.sIx_nat _ _ _
  rw [e2, List.drop_zero, Nat.sub_zero]
  rcases Nat.le_total m.toNat xs.length with q | q
  · rw [Nat.min_eq_left q]
  · rw [Nat.min_eq_right q, List.take_length, List.take_of_length_le q]
theorem three_step {R : D} {al : Str} {v : Int} {c1 c2 : Nat} {rs : List Rl} {j : Int} {lo hi : Int} {p0 p1 p2 p3 p4 : Int} {W : WEnds} {x8 x9 x10 x11 x12 : Option OT} (h1 : c1 ∈ al.cps.toList) (h2 : c2 ∈ al.cps.toList) (hv : 2 ≤ v)
    (hlo : 3 + 5 * j = lo) (hhi : 8 + 5 * j = hi) (hs : ∀ P : OT → Prop, fSl (.sh R) (some lo) (some hi) P = P (.lst (intsL [p0, p1, p2, p3, p4])))
    (b0 : 0 ≤ p0 ∧ p0 < 7) (b1 : 0 ≤ p1 ∧ p1 < 6) (b2 : 0 ≤ p2 ∧ p2 < 6) (b3 : 0 ≤ p3 ∧ p3 < 6) (b4 : 0 ≤ p4 ∧ p4 < 5) (hn : rs.length < 100)
    (h : ∀ r x8 x9 x10 x11 x12, okR3 al v r → W.nx [some (.sh R), some (.sh (.str al)), some (.sh (.int v)), some (.sh (.str ⟨#[c1]⟩)), some (.sh (.str ⟨#[c2]⟩)), some (.lst ((rs ++ [r]).map ruleD)), some (.lst ((SY c1 c2 v).map keyD)), some (.sh (.int j)), x8, x9, x10, x11, x12]) :
    b__law_three_1 W [some (.sh R), some (.sh (.str al)), some (.sh (.int v)), some (.sh (.str ⟨#[c1]⟩)), some (.sh (.str ⟨#[c2]⟩)), some (.lst (rs.map ruleD)), some (.lst ((SY c1 c2 v).map keyD)), some (.sh (.int j)), x8, x9, x10, x11, x12] := by
  obtain ⟨l, lm, la⟩ := pick (LL c1 c2) rfl b0.1 b0.2
  obtain ⟨s1, m1, a1⟩ := pick (SY c1 c2 v) rfl b1.1 b1.2
  obtain ⟨s2, m2, a2⟩ := pick (SY c1 c2 v) rfl b2.1 b2.2
  obtain ⟨s3, m3, a3⟩ := pick (SY c1 c2 v) rfl b3.1 b3.2
  obtain ⟨w, m4, a4⟩ := pick ([1, 2, 2, 2, 3] : List Int) rfl b4.1 b4.2
  obtain ⟨l1, l2, l3, l4⟩ := okLL h1 h2 hv lm
  have cm : CMul 5 j := .inl ⟨by decide, by decide⟩
  have z1 : (1 : Nat) ≤ sizeLine := by decide
  have z2 : (2 : Nat) ≤ sizeLine := by decide
  have z3 : (3 : Nat) ≤ sizeLine := by decide
  have z5 : (5 : Nat) ≤ sizeLine := by decide
  have z7 : (7 : Nat) ≤ sizeLine := by decide
  have eL : (.lst [D.tup [.int 0], .tup [.int 1], .tup [.int 1, .str ⟨#[c1]⟩], .tup [.str ⟨#[c1]⟩, .int 1], .tup [.int 0, .int 1], .tup [.int 1, .int 1], .tup [.str ⟨#[c2]⟩, .int 1]] : OT) = .lst ((LL c1 c2).map formD) := rfl
  have eW : (.lst [D.int 1, .int 2, .int 2, .int 2, .int 3] : OT) = .lst (([1, 2, 2, 2, 3] : List Int).map D.int) := rfl
  have q0 : ∀ P : OT → Prop, fIxA (.lst ((LL c1 c2).map formD)) (.sh (.int p0)) P = P (.sh (formD l)) := fun P => by rw [fIxA_lst, atI_map, la]; simp
  have q1 : ∀ P : OT → Prop, fIxA (.lst ((SY c1 c2 v).map keyD)) (.sh (.int p1)) P = P (.sh (keyD s1)) := fun P => by rw [fIxA_lst, atI_map, a1]; simp
  have q2 : ∀ P : OT → Prop, fIxA (.lst ((SY c1 c2 v).map keyD)) (.sh (.int p2)) P = P (.sh (keyD s2)) := fun P => by rw [fIxA_lst, atI_map, a2]; simp
  have q3 : ∀ P : OT → Prop, fIxA (.lst ((SY c1 c2 v).map keyD)) (.sh (.int p3)) P = P (.sh (keyD s3)) := fun P => by rw [fIxA_lst, atI_map, a3]; simp
  have q4 : ∀ P : OT → Prop, fIxA (.lst (([1, 2, 2, 2, 3] : List Int).map D.int)) (.sh (.int p4)) P = P (.sh (.int w)) := fun P => by rw [fIxA_lst, atI_map, a4]; simp
  have ll : l.length ≤ sizeLine := by have := size_big; omega
  have rl : rs.length < sizeLine := by have := size_big; omega
  have hw : 1 ≤ w ∧ w ≤ 3 := by
    simp only [List.mem_cons, List.mem_nil_iff, or_false] at m4
    omega
  have eF : (OT.sh (D.tup [keyD s1, keyD s2, keyD s3])) = .sh (formD [s1, s2, s3]) := rfl
  have fin : ∀ m : Int, (l.length : Int) ≤ m → 1 ≤ m → okR3 al v (l, cutL [s1, s2, s3] none (some m)) := fun m hm hm1 => by
    have sub := cutL_sub [s1, s2, s3] none (some m)
    have len : (cutL [s1, s2, s3] none (some m)).length = min m.toNat 3 := by
      rw [cutL_to _ (by omega), List.length_take]
      rfl
    refine ⟨⟨l1, fun k mk => ?_, l2, l4, by rw [len]; omega⟩, by show l.length ≤ _; rw [len]; omega⟩
    have := sub.subset mk
    simp only [List.mem_cons, List.mem_nil_iff, or_false] at this
    rcases this with rfl | rfl | rfl
    · exact okSY h1 h2 hv m1
    · exact okSY h1 h2 hv m2
    · exact okSY h1 h2 hv m3
  simp [ub__law_three_1, wDef, env0, wEnds, wSeq, wIfS, wTst, wBin, wUse, wName, wC, wUn, wTup, wLst, waCons, waNil, wAsg, gVar, gTupD_mk, gsCons_mk, gsNil_mk, ex2, ex3, wRet, wRetN, wNext, wNever, wDrop, wFor, wiAny, wiRange1, wiRange2, wiEn, wCall, wNot, wAnd, wOr, wAndV, wOrV, wNotV, wIf, wTru, tru_non, tru_bl, tru_int, val_sh, val_lst, val_dT, val_dK, val_ins, intsD, fBl, fSub, fMul, fFdiv, fMod, fPow, fAddA_int, fAddA_form, fMulA_int, fIxA_rule0, fIxA_rule1, gT_rule, atI_c0, atI_c1, atI_c2, atI_c3, atI_c4, fLen, len_str, len_tup, len_slst, len_fz, len_lst, len_form, fInt, fIsA, isA_key, isA_ii, isA_is, isA_ib, isA_ss, wApp, wPar, wAugI, wChain, wYes, wipeE, wSl, woNone, woSome, fTupOf_tup, fTupOf_lst, fTupOf_slst, fTupOf_form, fLstOf, asL_slst, asL_lst, asR_slst, asR_fz, asR_lst, fMax, items_lst, items_fz, items_tup, items_form, items_str, wD0, wSetF, wFld, fields_ins, fields_sins, putFD, wMake, fIsN, fNotN, wDisp, wLc, wDcT, wGet2, isD_dT, isD_sdT, wPut, wForK, cm, hlo, hhi, hs, z1, z2, z3, z5, z7, eL, q0, intsL, fIxA_lst]
  refine ⟨keyD s1, by rw [atI_map, a1]; rfl, keyD s2, by rw [atI_map, a2]; rfl, keyD s3, by rw [atI_map, a3]; rfl, ll, .int w, ?_, ?_⟩
  · have : ([D.int 1, .int 2, .int 2, .int 2, .int 3] : List D) = ([1, 2, 2, 2, 3] : List Int).map D.int := rfl
    rw [this, atI_map, a4]
    rfl
  · refine ⟨_, rfl, ?_⟩
    rw [eF, fSl_form]
    refine ⟨rl, ?_⟩
    have q := h (l, cutL [s1, s2, s3] none (some (if (l.length : Int) < w then w else l.length))) (some (.lst [D.int p0, D.int p1, D.int p2, D.int p3, D.int p4])) (some (.lst ((LL c1 c2).map formD))) (some (.sh (formD l))) (some (.sh (formD (cutL [s1, s2, s3] none (some (if (l.length : Int) < w then w else l.length)))))) x12 (fin _ (by split <;> omega) (by split <;> omega))
    simpa [ruleD, val_sh] using q
def partSizes : List Int := [7, 6, 6, 6, 5]
def allSizes : List Int := [3, 3, 4, 7, 6, 6, 6, 5, 7, 6, 6, 6, 5, 7, 6, 6, 6, 5, 7, 6, 6, 6, 5]
theorem RowOk.cons_inv {row ss : List Int} {s : Int} (h : RowOk row (s :: ss)) : ∃ r rs, row = r :: rs ∧ 0 ≤ r ∧ r < s ∧ RowOk rs ss := by
  cases h with
  | cons a b t => exact ⟨_, _, rfl, a, b, t⟩
theorem three_loop {al : Str} {v : Int} {c1 c2 : Nat} {row : List Int} (h1 : c1 ∈ al.cps.toList) (h2 : c2 ∈ al.cps.toList) (hv : 2 ≤ v) (hr : RowOk row allSizes) {W : WEnds} {rs : List Rl} {x7 x8 x9 x10 x11 x12 : Option OT} (hn : rs.length ≤ 3)
    (h : ∀ rs' x7 x8 x9 x10 x11 x12, (∀ r ∈ rs', okR3 al v r) → rs'.length = 4 → W.nx [some (.sh (.lst (intsL row))), some (.sh (.str al)), some (.sh (.int v)), some (.sh (.str ⟨#[c1]⟩)), some (.sh (.str ⟨#[c2]⟩)), some (.lst ((rs ++ rs').map ruleD)), some (.lst ((SY c1 c2 v).map keyD)), x7, x8, x9, x10, x11, x12]) :
    wLoop (gVar 7) b__law_three_1 W (rangeD 0 4) [some (.sh (.lst (intsL row))), some (.sh (.str al)), some (.sh (.int v)), some (.sh (.str ⟨#[c1]⟩)), some (.sh (.str ⟨#[c2]⟩)), some (.lst (rs.map ruleD)), some (.lst ((SY c1 c2 v).map keyD)), x7, x8, x9, x10, x11, x12] := by
  have r4 : rangeD 0 4 = [.int 0, .int 1, .int 2, .int 3] := rfl
  unfold allSizes at hr
  obtain ⟨r0, row, rfl, a0, b0, hr⟩ := hr.cons_inv
  obtain ⟨r1, row, rfl, a1, b1, hr⟩ := hr.cons_inv
  obtain ⟨r2, row, rfl, a2, b2, hr⟩ := hr.cons_inv
  obtain ⟨p0, row, rfl, c0, d0, hr⟩ := hr.cons_inv
  obtain ⟨p1, row, rfl, c1', d1, hr⟩ := hr.cons_inv
  obtain ⟨p2, row, rfl, c2', d2, hr⟩ := hr.cons_inv
  obtain ⟨p3, row, rfl, c3, d3, hr⟩ := hr.cons_inv
  obtain ⟨p4, row, rfl, c4, d4, hr⟩ := hr.cons_inv
  obtain ⟨q0, row, rfl, e0, f0, hr⟩ := hr.cons_inv
  obtain ⟨q1, row, rfl, e1, f1, hr⟩ := hr.cons_inv
  obtain ⟨q2, row, rfl, e2, f2, hr⟩ := hr.cons_inv
  obtain ⟨q3, row, rfl, e3, f3, hr⟩ := hr.cons_inv
  obtain ⟨q4, row, rfl, e4, f4, hr⟩ := hr.cons_inv
  obtain ⟨s0, row, rfl, g0, i0, hr⟩ := hr.cons_inv
  obtain ⟨s1, row, rfl, g1, i1, hr⟩ := hr.cons_inv
  obtain ⟨s2, row, rfl, g2, i2, hr⟩ := hr.cons_inv
  obtain ⟨s3, row, rfl, g3, i3, hr⟩ := hr.cons_inv
  obtain ⟨s4, row, rfl, g4, i4, hr⟩ := hr.cons_inv
  obtain ⟨t0, row, rfl, j0, k0, hr⟩ := hr.cons_inv
  obtain ⟨t1, row, rfl, j1, k1, hr⟩ := hr.cons_inv
  obtain ⟨t2, row, rfl, j2, k2, hr⟩ := hr.cons_inv
  obtain ⟨t3, row, rfl, j3, k3, hr⟩ := hr.cons_inv
  obtain ⟨t4, row, rfl, j4, k4, hr⟩ := hr.cons_inv
  cases hr
  rw [r4]
  simp only [wLoop, gVar]
  refine ⟨by simp, ?_⟩
  simp only [List.set]
  refine three_step (lo := 3) (hi := 8) (p0 := p0) (p1 := p1) (p2 := p2) (p3 := p3) (p4 := p4) h1 h2 hv (by decide) (by decide) (fun P => by rw [fSl_slst]; rfl) ⟨c0, d0⟩ ⟨c1', d1⟩ ⟨c2', d2⟩ ⟨c3, d3⟩ ⟨c4, d4⟩ (by omega) fun R1 y8 y9 y10 y11 y12 ok1 => ?_
  refine ⟨by simp, ?_⟩
  simp only [List.set]
  refine three_step (lo := 8) (hi := 13) (p0 := q0) (p1 := q1) (p2 := q2) (p3 := q3) (p4 := q4) h1 h2 hv (by decide) (by decide) (fun P => by rw [fSl_slst]; rfl) ⟨e0, f0⟩ ⟨e1, f1⟩ ⟨e2, f2⟩ ⟨e3, f3⟩ ⟨e4, f4⟩ (by simp; omega) fun R2 y8 y9 y10 y11 y12 ok2 => ?_
  refine ⟨by simp, ?_⟩
  simp only [List.set]
  refine three_step (lo := 13) (hi := 18) (p0 := s0) (p1 := s1) (p2 := s2) (p3 := s3) (p4 := s4) h1 h2 hv (by decide) (by decide) (fun P => by rw [fSl_slst]; rfl) ⟨g0, i0⟩ ⟨g1, i1⟩ ⟨g2, i2⟩ ⟨g3, i3⟩ ⟨g4, i4⟩ (by simp; omega) fun R3 y8 y9 y10 y11 y12 ok3 => ?_
  refine ⟨by simp, ?_⟩
  simp only [List.set]
  refine three_step (lo := 18) (hi := 23) (p0 := t0) (p1 := t1) (p2 := t2) (p3 := t3) (p4 := t4) h1 h2 hv (by decide) (by decide) (fun P => by rw [fSl_slst]; rfl) ⟨j0, k0⟩ ⟨j1, k1⟩ ⟨j2, k2⟩ ⟨j3, k3⟩ ⟨j4, k4⟩ (by simp; omega) fun R4 y8 y9 y10 y11 y12 ok4 => ?_
  have := h [R1, R2, R3, R4] (some (.sh (.int 3))) y8 y9 y10 y11 y12 (fun r m => by
    simp only [List.mem_cons, List.mem_nil_iff, or_false] at m
    rcases m with rfl | rfl | rfl | rfl <;> assumption) rfl
  simpa using this
end EW

set_option maxHeartbeats 4000000
/-! k70, plain: the drawn grammar, the whole. -/
namespace EW
open PySem PySem.Spec L2 EV
/-- what is drawn -/
structure okDrawn (al : List Nat) (v : Int) (rs : List Rl) : Prop where
  hal : okAl (txt al)
  hv : v = 2 ∨ v = 3
  r : ∀ r ∈ rs, okRule (txt al) v r
  k : ∀ r ∈ rs, okKind (!brought rs) r
  n : rs.length ≤ 9
  p : 0 < rs.length
def isE (r : Rl) : Bool := !kMem (.inl 0) r.2 && !decide (r.1 = [.inl 0, .inl 1])
theorem three_lc {al : Str} {v : Int} (ha : okAl al) {a0 a1 a2 a3 a4 a5 a6 a7 a8 a9 a10 a11 : Option OT} {R : OT → Env' → Prop} : ∀ (rs acc : List Rl), (∀ r ∈ rs, okRule al v r) → acc.length + rs.length < 1000 →
    R (.lst ((acc ++ rs.filter isE).map ruleD)) [a0, a1, a2, a3, a4, a5, a6, a7, a8, a9, a10, a11, none] →
    lcLoop [12] (gVar 12) t__law_three_3 e__law_three_2 R (rs.map ruleD) (acc.map ruleD) [a0, a1, a2, a3, a4, a5, a6, a7, a8, a9, a10, a11, none]
  | [], acc, _, _, h => by simpa [lcLoop] using h
  | r :: rs, acc, ok, hl, h => by
    simp only [List.map_cons, lcLoop]
    simp only [List.length_cons] at hl
    have s2 : acc.length < sizeLine := by have := size_big; omega
    have z2 : (2 : Nat) ≤ sizeLine := by decide
    have okr := ok r (by simp)
    have f1 := okF_syms ha okr.sl
    have g1 : okF [.inl 0, .inl 1] = true := rfl
    have e1 : (D.tup [.int 0, .int 1]) = formD [.inl 0, .inl 1] := rfl
    have k0 : ∀ P : OT → Prop, fInA true (.sh (.int 0)) (.sh (formD r.2)) P = P (.sh (.bl (!kMem (.inl 0) r.2))) := fun P => by
      have := fInA_form (neg := true) (k := .inl 0) (f := r.2) (P := P)
      simpa [keyD] using this
    simp [ut__law_three_3, ue__law_three_2, wDef, env0, wEnds, wSeq, wIfS, wTst, wBin, wUse, wName, wC, wUn, wTup, wLst, waCons, waNil, wAsg, gVar, gTupD_mk, gsCons_mk, gsNil_mk, ex2, ex3, wRet, wRetN, wNext, wNever, wDrop, wFor, wiAny, wiRange1, wiRange2, wiEn, wCall, wNot, wAnd, wOr, wAndV, wOrV, wNotV, wIf, wTru, tru_non, tru_bl, tru_int, val_sh, val_lst, val_dT, val_dK, val_ins, intsD, fBl, fSub, fMul, fFdiv, fMod, fPow, fAddA_int, fAddA_form, fMulA_int, fIxA_rule0, fIxA_rule1, gT_rule, atI_c0, atI_c1, atI_c2, atI_c3, atI_c4, fLen, len_str, len_tup, len_slst, len_fz, len_lst, len_form, fInt, fIsA, isA_key, isA_ii, isA_is, isA_ib, isA_ss, wApp, wPar, wAugI, wChain, wYes, wipeE, wSl, woNone, woSome, fTupOf_tup, fTupOf_lst, fTupOf_slst, fTupOf_form, fLstOf, asL_slst, asL_lst, asR_slst, asR_fz, asR_lst, fMax, items_lst, items_fz, items_tup, items_form, items_str, wD0, wSetF, wFld, fields_ins, fields_sins, putFD, wMake, fIsN, fNotN, wDisp, wLc, wDcT, wGet2, isD_dT, isD_sdT, wPut, wForK, k0, z2, e1, fNe_form f1 g1]
    cases c1 : kMem (.inl 0) r.2 with
    | true =>
      have hE : isE r = false := by simp [isE, c1]
      simp [List.set]
      exact three_lc ha rs acc (fun r' m => ok r' (by simp [m])) (by omega) (by simpa [List.filter_cons, hE] using h)
    | false =>
      by_cases c2 : r.1 = [.inl 0, .inl 1]
      · have hE : isE r = false := by simp [isE, c1, c2]
        simp [c2, List.set]
        exact three_lc ha rs acc (fun r' m => ok r' (by simp [m])) (by omega) (by simpa [List.filter_cons, hE] using h)
      · have hE : isE r = true := by simp [isE, c1, c2]
        simp [c2, List.set, s2]
        have q := three_lc ha rs (acc ++ [r]) (a0 := a0) (a1 := a1) (a2 := a2) (a3 := a3) (a4 := a4) (a5 := a5) (a6 := a6) (a7 := a7) (a8 := a8) (a9 := a9) (a10 := a10) (a11 := a11) (R := R) (fun r' m => ok r' (by simp [m])) (by simp; omega) (by simpa [List.filter_cons, hE] using h)
        simpa using q
theorem kMem_brought {f : List Key} (h : kMem (.inl 0) f = false) : f.any isS = false := by
  rw [List.any_eq_false]
  intro k m
  unfold kMem at h
  rw [List.any_eq_false] at h
  have := h k m
  simp only [isS, decide_eq_true_eq] at this ⊢
  exact fun e => this e.symm
theorem txt_at {l : List Nat} {i : Int} {P : OT → Prop} : fIxA (.sh (.str (txt l))) (.sh (.int i)) P = (l.length ≤ sizeLine ∧ ∃ c, atI l i = some c ∧ P (.sh (.str ⟨#[c]⟩))) := by
  rw [fIxA_str]
  have e1 : (txt l).length = l.length := by simp [txt, lenStr]
  have e2 : (txt l).cps.toList = l := by simp [txt]
  rw [e1, e2]
theorem okDrawn_plain {al : List Nat} {v : Int} {rs : List Rl} (hal : okAl (txt al)) (hv : v = 2 ∨ v = 3) (h : ∀ r ∈ rs, okR3 (txt al) v r) (n : rs.length ≤ 9) (p : 0 < rs.length) : okDrawn al v rs :=
  ⟨hal, hv, fun r m => (h r m).1, fun r m => .inl (h r m).2, n, p⟩
theorem okDrawn_empty {al : List Nat} {v : Int} {rs : List Rl} (hal : okAl (txt al)) (hv : v = 2 ∨ v = 3) (h : ∀ r ∈ rs, okR3 (txt al) v r) (n : rs.length ≤ 7) : okDrawn al v ([([.inl 0], [.inl 1]), ([.inl 0], [])] ++ rs.filter isE) := by
  have z0 : okSym (txt al) v (.inl 0) := ⟨by decide, by omega⟩
  have z1 : okSym (txt al) v (.inl 1) := ⟨by decide, by omega⟩
  have hb : brought ([([.inl 0], [.inl 1]), ([.inl 0], [])] ++ rs.filter isE) = false := by
    unfold brought
    rw [List.any_append, Bool.or_eq_false_iff]
    refine ⟨by decide, ?_⟩
    rw [List.any_eq_false]
    intro r m
    have q := (List.mem_filter.mp m).2
    simp only [isE, Bool.and_eq_true, Bool.not_eq_true'] at q
    rw [kMem_brought q.1]
    decide
  refine ⟨hal, hv, fun r m => ?_, fun r m => ?_, ?_, by simp⟩
  · rcases List.mem_append.mp m with m | m
    · simp only [List.mem_cons, List.mem_nil_iff, or_false] at m
      rcases m with rfl | rfl
      · exact ⟨by simpa using z0, by simpa using z1, ⟨.inl 0, by simp, rfl⟩, by decide, by decide⟩
      · exact ⟨by simpa using z0, by simp, ⟨.inl 0, by simp, rfl⟩, by decide, by decide⟩
    · exact (h r (List.mem_filter.mp m).1).1
  · rw [hb]
    rcases List.mem_append.mp m with m | m
    · simp only [List.mem_cons, List.mem_nil_iff, or_false] at m
      rcases m with rfl | rfl
      · exact .inl (by decide)
      · exact .inr ⟨rfl, rfl⟩
    · exact .inl (h r (List.mem_filter.mp m).1).2
  · have := List.length_filter_le isE rs
    simp
    omega
def afterThree : WS := (wSeq (wIfS (wAnd (wTst (wBin fEq (wBin fIxA (wUse 0) (wC (.int 1))) (wC (.int 2)))) (wTst (wBin fEq (wBin fIxA (wUse 0) (wC (.int 2))) (wC (.int 3))))) (wAsg (wBin fAddA (wLst (waCons (wTup (waCons (wTup (waCons (wC (.int 0)) waNil)) (waCons (wTup (waCons (wC (.int 1)) waNil)) waNil))) (waCons (wTup (waCons (wTup (waCons (wC (.int 0)) waNil)) (waCons (wTup waNil) waNil))) waNil))) (wLc (([("rule", 12)] : List (Str × Nat)).map (·.2)) (wiAny (wName 5)) (gVar 12) t__law_three_3 e__law_three_2)) (gVar 5)) wNext)
      (wRet (wLst (waCons (wName 1) (waCons (wName 2) (waCons (wName 5) waNil))))))
theorem three_end {R : D} {al : List Nat} {v : Int} {rs : List Rl} {r1 r2 : Int} {P : OT → Prop} {a3 a4 a6 a7 a8 a9 a10 a11 a12 : Option OT} (hal : okAl (txt al)) (hv : v = 2 ∨ v = 3) (i1 : ∀ P : OT → Prop, fIxA (.sh R) (.sh (.int 1)) P = P (.sh (.int r1))) (i2 : ∀ P : OT → Prop, fIxA (.sh R) (.sh (.int 2)) P = P (.sh (.int r2)))
    (ok : ∀ r ∈ rs, okR3 (txt al) v r) (n : rs.length ≤ 7) (p : 0 < rs.length) (h : ∀ al v rs, okDrawn al v rs → P (.lst [.str (txt al), .int v, rulesD rs])) :
    afterThree (wEnds P) [some (.sh R), some (.sh (.str (txt al))), some (.sh (.int v)), a3, a4, some (.lst (rs.map ruleD)), a6, a7, a8, a9, a10, a11, a12] := by
  have z1 : (1 : Nat) ≤ sizeLine := by decide
  have z2 : (2 : Nat) ≤ sizeLine := by decide
  have z3 : (3 : Nat) ≤ sizeLine := by decide
  have fin : P (.lst [.str (txt al), .int v, rulesD rs]) := h al v rs (okDrawn_plain hal hv ok (by omega) p)
  simp only [afterThree]
  by_cases c1 : r1 = 2
  · by_cases c2 : r2 = 3
    · subst c1 c2
      simp [wDef, env0, wEnds, wSeq, wIfS, wTst, wBin, wUse, wName, wC, wUn, wTup, wLst, waCons, waNil, wAsg, gVar, gTupD_mk, gsCons_mk, gsNil_mk, ex2, ex3, wRet, wRetN, wNext, wNever, wDrop, wFor, wiAny, wiRange1, wiRange2, wiEn, wCall, wNot, wAnd, wOr, wAndV, wOrV, wNotV, wIf, wTru, tru_non, tru_bl, tru_int, val_sh, val_lst, val_dT, val_dK, val_ins, intsD, fBl, fSub, fMul, fFdiv, fMod, fPow, fAddA_int, fAddA_form, fMulA_int, fIxA_rule0, fIxA_rule1, gT_rule, atI_c0, atI_c1, atI_c2, atI_c3, atI_c4, fLen, len_str, len_tup, len_slst, len_fz, len_lst, len_form, fInt, fIsA, isA_key, isA_ii, isA_is, isA_ib, isA_ss, wApp, wPar, wAugI, wChain, wYes, wipeE, wSl, woNone, woSome, fTupOf_tup, fTupOf_lst, fTupOf_slst, fTupOf_form, fLstOf, asL_slst, asL_lst, asR_slst, asR_fz, asR_lst, fMax, items_lst, items_fz, items_tup, items_form, items_str, wD0, wSetF, wFld, fields_ins, fields_sins, putFD, wMake, fIsN, fNotN, wDisp, wLc, wDcT, wGet2, isD_dT, isD_sdT, wPut, wForK, i1, i2, fEq_int, z1, z2, z3]
      refine three_lc hal rs [] (fun r m => (ok r m).1) (by simp; omega) ?_
      have e : (.lst [D.tup [.tup [.int 0], .tup [.int 1]], .tup [.tup [.int 0], .tup []]] : OT) = .lst (([([.inl 0], [.inl 1]), ([.inl 0], [])] : List Rl).map ruleD) := rfl
      rw [e, fAddA_lst (xs := ([([.inl 0], [.inl 1]), ([.inl 0], [])] : List Rl).map ruleD) (ys := ([] ++ rs.filter isE).map ruleD) rfl rfl]
      have s : ((([([.inl 0], [.inl 1]), ([.inl 0], [])] : List Rl).map ruleD).length + (([] ++ rs.filter isE).map ruleD).length) ≤ sizeLine := by
        have := List.length_filter_le isE rs
        have := size_big
        simp
        omega
      refine ⟨s, ?_⟩
      have q := h al v _ (okDrawn_empty hal hv ok n)
      simpa [wDef, env0, wEnds, wSeq, wIfS, wTst, wBin, wUse, wName, wC, wUn, wTup, wLst, waCons, waNil, wAsg, gVar, gTupD_mk, gsCons_mk, gsNil_mk, ex2, ex3, wRet, wRetN, wNext, wNever, wDrop, wFor, wiAny, wiRange1, wiRange2, wiEn, wCall, wNot, wAnd, wOr, wAndV, wOrV, wNotV, wIf, wTru, tru_non, tru_bl, tru_int, val_sh, val_lst, val_dT, val_dK, val_ins, intsD, fBl, fSub, fMul, fFdiv, fMod, fPow, fAddA_int, fAddA_form, fMulA_int, fIxA_rule0, fIxA_rule1, gT_rule, atI_c0, atI_c1, atI_c2, atI_c3, atI_c4, fLen, len_str, len_tup, len_slst, len_fz, len_lst, len_form, fInt, fIsA, isA_key, isA_ii, isA_is, isA_ib, isA_ss, wApp, wPar, wAugI, wChain, wYes, wipeE, wSl, woNone, woSome, fTupOf_tup, fTupOf_lst, fTupOf_slst, fTupOf_form, fLstOf, asL_slst, asL_lst, asR_slst, asR_fz, asR_lst, fMax, items_lst, items_fz, items_tup, items_form, items_str, wD0, wSetF, wFld, fields_ins, fields_sins, putFD, wMake, fIsN, fNotN, wDisp, wLc, wDcT, wGet2, isD_dT, isD_sdT, wPut, wForK, rulesD, z3] using q
    · simp [wDef, env0, wEnds, wSeq, wIfS, wTst, wBin, wUse, wName, wC, wUn, wTup, wLst, waCons, waNil, wAsg, gVar, gTupD_mk, gsCons_mk, gsNil_mk, ex2, ex3, wRet, wRetN, wNext, wNever, wDrop, wFor, wiAny, wiRange1, wiRange2, wiEn, wCall, wNot, wAnd, wOr, wAndV, wOrV, wNotV, wIf, wTru, tru_non, tru_bl, tru_int, val_sh, val_lst, val_dT, val_dK, val_ins, intsD, fBl, fSub, fMul, fFdiv, fMod, fPow, fAddA_int, fAddA_form, fMulA_int, fIxA_rule0, fIxA_rule1, gT_rule, atI_c0, atI_c1, atI_c2, atI_c3, atI_c4, fLen, len_str, len_tup, len_slst, len_fz, len_lst, len_form, fInt, fIsA, isA_key, isA_ii, isA_is, isA_ib, isA_ss, wApp, wPar, wAugI, wChain, wYes, wipeE, wSl, woNone, woSome, fTupOf_tup, fTupOf_lst, fTupOf_slst, fTupOf_form, fLstOf, asL_slst, asL_lst, asR_slst, asR_fz, asR_lst, fMax, items_lst, items_fz, items_tup, items_form, items_str, wD0, wSetF, wFld, fields_ins, fields_sins, putFD, wMake, fIsN, fNotN, wDisp, wLc, wDcT, wGet2, isD_dT, isD_sdT, wPut, wForK, i1, i2, fEq_int, z1, z2, z3, c1, c2]
      exact fin
  · simp [wDef, env0, wEnds, wSeq, wIfS, wTst, wBin, wUse, wName, wC, wUn, wTup, wLst, waCons, waNil, wAsg, gVar, gTupD_mk, gsCons_mk, gsNil_mk, ex2, ex3, wRet, wRetN, wNext, wNever, wDrop, wFor, wiAny, wiRange1, wiRange2, wiEn, wCall, wNot, wAnd, wOr, wAndV, wOrV, wNotV, wIf, wTru, tru_non, tru_bl, tru_int, val_sh, val_lst, val_dT, val_dK, val_ins, intsD, fBl, fSub, fMul, fFdiv, fMod, fPow, fAddA_int, fAddA_form, fMulA_int, fIxA_rule0, fIxA_rule1, gT_rule, atI_c0, atI_c1, atI_c2, atI_c3, atI_c4, fLen, len_str, len_tup, len_slst, len_fz, len_lst, len_form, fInt, fIsA, isA_key, isA_ii, isA_is, isA_ib, isA_ss, wApp, wPar, wAugI, wChain, wYes, wipeE, wSl, woNone, woSome, fTupOf_tup, fTupOf_lst, fTupOf_slst, fTupOf_form, fLstOf, asL_slst, asL_lst, asR_slst, asR_fz, asR_lst, fMax, items_lst, items_fz, items_tup, items_form, items_str, wD0, wSetF, wFld, fields_ins, fields_sins, putFD, wMake, fIsN, fNotN, wDisp, wLc, wDcT, wGet2, isD_dT, isD_sdT, wPut, wForK, i1, i2, fEq_int, z1, z2, z3, c1]
    exact fin
theorem three_ok {row : List Int} {P : OT → Prop} (hr : RowOk row allSizes) (h : ∀ al v rs, okDrawn al v rs → P (.lst [.str (txt al), .int v, rulesD rs])) : φ__law_three [.lst (intsL row)] P := by
  have hr' := hr
  unfold allSizes at hr'
  obtain ⟨r0, row1, rfl, a0, b0, hr'⟩ := hr'.cons_inv
  obtain ⟨r1, row1, rfl, a1, b1, hr'⟩ := hr'.cons_inv
  obtain ⟨r2, row1, rfl, a2, b2, hr'⟩ := hr'.cons_inv
  have i0 : ∀ P : OT → Prop, fIxA (.sh (.lst (intsL (r0 :: r1 :: r2 :: row1)))) (.sh (.int 0)) P = P (.sh (.int r0)) := fun P => by simp [intsL, fIxA_slst, atI_c0]
  have i1 : ∀ P : OT → Prop, fIxA (.sh (.lst (intsL (r0 :: r1 :: r2 :: row1)))) (.sh (.int 1)) P = P (.sh (.int r1)) := fun P => by simp [intsL, fIxA_slst, atI_c1]
  have i2 : ∀ P : OT → Prop, fIxA (.sh (.lst (intsL (r0 :: r1 :: r2 :: row1)))) (.sh (.int 2)) P = P (.sh (.int r2)) := fun P => by simp [intsL, fIxA_slst, atI_c2]
  have z1 : (1 : Nat) ≤ sizeLine := by decide
  have z2 : (2 : Nat) ≤ sizeLine := by decide
  have z3 : (3 : Nat) ≤ sizeLine := by decide
  have z4 : (4 : Nat) ≤ sizeLine := by decide
  have z6 : (6 : Nat) ≤ sizeLine := by decide
  obtain ⟨al, c2, hal, ca, hlast⟩ : ∃ (al : List Nat) (c2 : Nat), okAl (txt al) ∧ (∀ P : OT → Prop, fIxA (.lst [.str ("ab" : Str), .str ("a" : Str), .str ("ab" : Str)]) (.sh (.int r0)) P = P (.sh (.str (txt al)))) ∧ ((al = [97, 98] ∧ c2 = 98) ∨ (al = [97] ∧ c2 = 97)) := by
    have : r0 = 0 ∨ r0 = 1 ∨ r0 = 2 := by omega
    rcases this with rfl | rfl | rfl
    · exact ⟨[97, 98], 98, .inl rfl, fun P => by rw [fIxA_lst, atI_c0]; simp; rfl, .inl ⟨rfl, rfl⟩⟩
    · exact ⟨[97], 97, .inr rfl, fun P => by rw [fIxA_lst, atI_c1]; simp; rfl, .inr ⟨rfl, rfl⟩⟩
    · exact ⟨[97, 98], 98, .inl rfl, fun P => by rw [fIxA_lst, atI_c2]; simp; rfl, .inl ⟨rfl, rfl⟩⟩
  obtain ⟨v, hv, cv⟩ : ∃ v : Int, (v = 2 ∨ v = 3) ∧ (∀ P : OT → Prop, fIxA (.lst [.int 2, .int 3, .int 2]) (.sh (.int r1)) P = P (.sh (.int v))) := by
    have : r1 = 0 ∨ r1 = 1 ∨ r1 = 2 := by omega
    rcases this with rfl | rfl | rfl
    · exact ⟨2, .inl rfl, fun P => by rw [fIxA_lst, atI_c0]; simp⟩
    · exact ⟨3, .inr rfl, fun P => by rw [fIxA_lst, atI_c1]; simp⟩
    · exact ⟨2, .inl rfl, fun P => by rw [fIxA_lst, atI_c2]; simp⟩
  have hv2 : 2 ≤ v := by omega
  have tl : (txt al).cps.toList = al := by simp [txt]
  have m1 : (97 : Nat) ∈ (txt al).cps.toList := by rw [tl]; rcases hlast with ⟨rfl, _⟩ | ⟨rfl, _⟩ <;> simp
  have m2 : c2 ∈ (txt al).cps.toList := by rw [tl]; rcases hlast with ⟨rfl, rfl⟩ | ⟨rfl, rfl⟩ <;> simp
  have s1 : al.length ≤ sizeLine := by rcases hlast with ⟨rfl, _⟩ | ⟨rfl, _⟩ <;> decide
  have f1 : ∀ P : OT → Prop, fIxA (.sh (.str (txt al))) (.sh (.int 0)) P = P (.sh (.str ⟨#[97]⟩)) := fun P => by
    rw [txt_at]
    rcases hlast with ⟨rfl, _⟩ | ⟨rfl, _⟩ <;> simp [atI_c0, z1, z2]
  have len : (txt al).length = al.length := by simp [txt, lenStr]
  have f2 : ∀ P : OT → Prop, fIxA (.sh (.str (txt al))) (.sh (.int ((al.length : Int) - 1))) P = P (.sh (.str ⟨#[c2]⟩)) := fun P => by
    rw [txt_at]
    rcases hlast with ⟨rfl, rfl⟩ | ⟨rfl, rfl⟩
    · have e : (([97, 98] : List Nat).length : Int) - 1 = 1 := rfl
      rw [e]
      simp [atI_c1, z2]
    · have e : (([97] : List Nat).length : Int) - 1 = 0 := rfl
      rw [e]
      simp [atI_c0, z1]
  have o0 : okSym (txt al) v (.inl 0) := ⟨by decide, by omega⟩
  have o1 : okSym (txt al) v (.inl 1) := ⟨by decide, by omega⟩
  have ol1 := okltr (v := v) m1
  have ol2 := okltr (v := v) m2
  have okr : ∀ (l r : List Key), (∀ k ∈ l, okSym (txt al) v k) → (∀ k ∈ r, okSym (txt al) v k) → (∃ k ∈ l, isV k = true) → l.length ≤ 2 → r.length ≤ 3 → l.length ≤ r.length → okR3 (txt al) v (l, r) := fun l r a b c d e f => ⟨⟨a, b, c, d, e⟩, f⟩
  have go : ∀ (rs : List Rl) (x7 x8 x9 x10 x11 x12 : Option OT), (∀ r ∈ rs, okR3 (txt al) v r) → rs.length ≤ 3 → 0 < rs.length →
      wLoop (gVar 7) b__law_three_1 { nx := afterThree (wEnds P), rt := P, bk := fun _ => False, ct := fun _ => False } (rangeD 0 4) [some (.sh (.lst (intsL (r0 :: r1 :: r2 :: row1)))), some (.sh (.str (txt al))), some (.sh (.int v)), some (.sh (.str ⟨#[97]⟩)), some (.sh (.str ⟨#[c2]⟩)), some (.lst (rs.map ruleD)), some (.lst ((SY 97 c2 v).map keyD)), x7, x8, x9, x10, x11, x12] := fun rs x7 x8 x9 x10 x11 x12 ok n p => by
    refine three_loop m1 m2 hv2 hr n fun rs' y7 y8 y9 y10 y11 y12 ok' n' => ?_
    exact three_end hal hv i1 i2 (fun r m => by
      rcases List.mem_append.mp m with m | m
      · exact ok r m
      · exact ok' r m) (by rw [List.length_append]; omega) (by rw [List.length_append]; omega) h
  have k0 : ∀ _ : Int, ∀ r ∈ ([([.inl 0], [ltr 97, .inl 1]), ([.inl 1], [ltr c2])] : List Rl), okR3 (txt al) v r := fun _ r m => by
    simp only [List.mem_cons, List.mem_nil_iff, or_false] at m
    rcases m with rfl | rfl
    · exact okr _ _ (by simpa using o0) (by simpa using ⟨ol1, o1⟩) ⟨.inl 0, by simp, rfl⟩ (by simp) (by simp) (by simp)
    · exact okr _ _ (by simpa using o1) (by simpa using ol2) ⟨.inl 1, by simp, rfl⟩ (by simp) (by simp) (by simp)
  have k1 : ∀ _ : Int, ∀ r ∈ ([([.inl 0], [.inl 0, .inl 1]), ([.inl 0], [ltr 97]), ([.inl 1], [ltr c2])] : List Rl), okR3 (txt al) v r := fun _ r m => by
    simp only [List.mem_cons, List.mem_nil_iff, or_false] at m
    rcases m with rfl | rfl | rfl
    · exact okr _ _ (by simpa using o0) (by simpa using ⟨o0, o1⟩) ⟨.inl 0, by simp, rfl⟩ (by simp) (by simp) (by simp)
    · exact okr _ _ (by simpa using o0) (by simpa using ol1) ⟨.inl 0, by simp, rfl⟩ (by simp) (by simp) (by simp)
    · exact okr _ _ (by simpa using o1) (by simpa using ol2) ⟨.inl 1, by simp, rfl⟩ (by simp) (by simp) (by simp)
  have k2 : ∀ _ : Int, ∀ r ∈ ([([.inl 0], [.inl 1, .inl 1]), ([.inl 1], [ltr 97])] : List Rl), okR3 (txt al) v r := fun _ r m => by
    simp only [List.mem_cons, List.mem_nil_iff, or_false] at m
    rcases m with rfl | rfl
    · exact okr _ _ (by simpa using o0) (by simpa using o1) ⟨.inl 0, by simp, rfl⟩ (by simp) (by simp) (by simp)
    · exact okr _ _ (by simpa using o1) (by simpa using ol1) ⟨.inl 1, by simp, rfl⟩ (by simp) (by simp) (by simp)
  have : r2 = 0 ∨ r2 = 1 ∨ r2 = 2 ∨ r2 = 3 := by omega
  simp [φ__law_three, w__law_three, N__law_three, wDef, env0, wEnds, wSeq, wIfS, wTst, wBin, wUse, wName, wC, wUn, wTup, wLst, waCons, waNil, wAsg, gVar, gTupD_mk, gsCons_mk, gsNil_mk, ex2, ex3, wRet, wRetN, wNext, wNever, wDrop, wFor, wiAny, wiRange1, wiRange2, wiEn, wCall, wNot, wAnd, wOr, wAndV, wOrV, wNotV, wIf, wTru, tru_non, tru_bl, tru_int, val_sh, val_lst, val_dT, val_dK, val_ins, intsD, fBl, fSub, fMul, fFdiv, fMod, fPow, fAddA_int, fAddA_form, fMulA_int, fIxA_rule0, fIxA_rule1, gT_rule, atI_c0, atI_c1, atI_c2, atI_c3, atI_c4, fLen, len_str, len_tup, len_slst, len_fz, len_lst, len_form, fInt, fIsA, isA_key, isA_ii, isA_is, isA_ib, isA_ss, wApp, wPar, wAugI, wChain, wYes, wipeE, wSl, woNone, woSome, fTupOf_tup, fTupOf_lst, fTupOf_slst, fTupOf_form, fLstOf, asL_slst, asL_lst, asR_slst, asR_fz, asR_lst, fMax, items_lst, items_fz, items_tup, items_form, items_str, wD0, wSetF, wFld, fields_ins, fields_sins, putFD, wMake, fIsN, fNotN, wDisp, wLc, wDcT, wGet2, isD_dT, isD_sdT, wPut, wForK, i0, i1, i2, ca, cv, f1, f2, len, s1, z1, z2, z3, z4, z6, fEq_int]
  rcases this with rfl | rfl | rfl | rfl
  · exact .inl ⟨by decide, .inl ⟨by decide, go [([.inl 0], [ltr 97, .inl 1]), ([.inl 1], [ltr c2])] _ _ _ _ _ _ (k0 v) (by simp) (by simp)⟩⟩
  · exact .inr ⟨rfl, .inl ⟨by decide, go [([.inl 0], [.inl 0, .inl 1]), ([.inl 0], [ltr 97]), ([.inl 1], [ltr c2])] _ _ _ _ _ _ (k1 v) (by simp) (by simp)⟩⟩
  · exact .inl ⟨by decide, .inr ⟨rfl, go [([.inl 0], [.inl 1, .inl 1]), ([.inl 1], [ltr 97])] _ _ _ _ _ _ (k2 v) (by simp) (by simp)⟩⟩
  · exact .inl ⟨by decide, .inl ⟨by decide, go [([.inl 0], [ltr 97, .inl 1]), ([.inl 1], [ltr c2])] _ _ _ _ _ _ (k0 v) (by simp) (by simp)⟩⟩
end EW

set_option maxHeartbeats 4000000
/-! k70, plain: renaming. -/
namespace EW
open PySem PySem.Spec L2 EV
theorem putD_K {ds : List (Key × D)} {i : Int} {d : D} (h : ds.length < sizeLine) : putD (.dK ds) (.sh (.int i)) d (.dK (putG ds (.inl i) d)) := .inl ⟨ds, .inl i, rfl, rfl, h, rfl⟩
theorem order_step {O : OT} {many i x : Int} {ds : List (Key × D)} {W : WEnds} (h0 : 0 ≤ x) (h1 : x < many) (hn : lookK ds (.inl x) = none) (hk : i < 1 → x = i) (hl : ds.length < 100)
    (h : W.nx [some O, some (.sh (.int many)), some (.sh (.int 1)), some (.dK (putG ds (.inl x) (.bl true))), some (.sh (.int i)), some (.sh (.int x))]) :
    b_check_order_1 W [some O, some (.sh (.int many)), some (.sh (.int 1)), some (.dK ds), some (.sh (.int i)), some (.sh (.int x))] := by
  have hl' : ds.length < sizeLine := by have := size_big; omega
  have ki : ∀ P : OT → Prop, fInA true (.sh (.int x)) (.dK ds) P = P (.sh (.bl true)) := fun P => by
    have := fInA_K (neg := true) (t := .dK ds) (kvs := ds) (f := .inl x) (P := P) rfl rfl rfl
    rw [hn] at this
    simpa [keyD] using this
  have ki2 : ∀ P : OT → Prop, fInA false (.sh (.int x)) (.dK ds) P = P (.sh (.bl false)) := fun P => by
    have := fInA_K (neg := false) (t := .dK ds) (kvs := ds) (f := .inl x) (P := P) rfl rfl rfl
    rw [hn] at this
    simpa [keyD] using this
  simp [ub_check_order_1, wDef, env0, wEnds, wSeq, wIfS, wTst, wBin, wUse, wName, wC, wUn, wTup, wLst, waCons, waNil, wAsg, gVar, gTupD_mk, gsCons_mk, gsNil_mk, ex2, ex3, wRet, wRetN, wNext, wNever, wDrop, wFor, wiAny, wiRange1, wiRange2, wiEn, wCall, wNot, wAnd, wOr, wAndV, wOrV, wNotV, wIf, wTru, tru_non, tru_bl, tru_int, val_sh, val_lst, val_dT, val_dK, val_ins, intsD, fBl, fSub, fMul, fFdiv, fMod, fPow, fAddA_int, fAddA_form, fMulA_int, fIxA_rule0, fIxA_rule1, gT_rule, atI_c0, atI_c1, atI_c2, atI_c3, atI_c4, fLen, len_str, len_tup, len_slst, len_fz, len_lst, len_form, fInt, fIsA, isA_key, isA_ii, isA_is, isA_ib, isA_ss, wApp, wPar, wAugI, wChain, wYes, wipeE, wSl, woNone, woSome, fTupOf_tup, fTupOf_lst, fTupOf_slst, fTupOf_form, fLstOf, asL_slst, asL_lst, asR_slst, asR_fz, asR_lst, fMax, items_lst, items_fz, items_tup, items_form, items_str, wD0, wSetF, wFld, fields_ins, fields_sins, putFD, wMake, fIsN, fNotN, wDisp, wLc, wDcT, wGet2, isD_dT, isD_sdT, wPut, wForK]
  refine is_whole_int ?_
  simp [tru_bl, h0, h1, ki, ki2, fNe_int]
  by_cases c : i < 1
  · have e := hk c
    subst e
    simp [c]
    exact .inr ⟨_, putD_K hl', h⟩
  · have c' : 1 ≤ i := by omega
    simp [c, c']
    refine ⟨_, putD_K hl', h⟩
theorem check_order_2 {P : OT → Prop} (h : P (.sh .non)) : φ_check_order [.lst (intsL [0, 1]), .int 2, .int 1] P := by
  have z2 : (2 : Nat) ≤ sizeLine := by decide
  have e : enumD 0 (intsL [0, 1]) = [.tup [.int 0, .int 0], .tup [.int 1, .int 1]] := rfl
  simp [φ_check_order, w_check_order, N_check_order, wDef, env0, wEnds, wSeq, wIfS, wTst, wBin, wUse, wName, wC, wUn, wTup, wLst, waCons, waNil, wAsg, gVar, gTupD_mk, gsCons_mk, gsNil_mk, ex2, ex3, wRet, wRetN, wNext, wNever, wDrop, wFor, wiAny, wiRange1, wiRange2, wiEn, wCall, wNot, wAnd, wOr, wAndV, wOrV, wNotV, wIf, wTru, tru_non, tru_bl, tru_int, val_sh, val_lst, val_dT, val_dK, val_ins, intsD, fBl, fSub, fMul, fFdiv, fMod, fPow, fAddA_int, fAddA_form, fMulA_int, fIxA_rule0, fIxA_rule1, gT_rule, atI_c0, atI_c1, atI_c2, atI_c3, atI_c4, fLen, len_str, len_tup, len_slst, len_fz, len_lst, len_form, fInt, fIsA, isA_key, isA_ii, isA_is, isA_ib, isA_ss, wApp, wPar, wAugI, wChain, wYes, wipeE, wSl, woNone, woSome, fTupOf_tup, fTupOf_lst, fTupOf_slst, fTupOf_form, fLstOf, asL_slst, asL_lst, asR_slst, asR_fz, asR_lst, fMax, items_lst, items_fz, items_tup, items_form, items_str, wD0, wSetF, wFld, fields_ins, fields_sins, putFD, wMake, fIsN, fNotN, wDisp, wLc, wDcT, wGet2, isD_dT, isD_sdT, wPut, wForK, fNe_int, intsL, z2]
  refine .inl ?_
  simp only [enumD_cons, enumD, wLoop]
  simp [wDef, env0, wEnds, wSeq, wIfS, wTst, wBin, wUse, wName, wC, wUn, wTup, wLst, waCons, waNil, wAsg, gVar, gTupD_mk, gsCons_mk, gsNil_mk, ex2, ex3, wRet, wRetN, wNext, wNever, wDrop, wFor, wiAny, wiRange1, wiRange2, wiEn, wCall, wNot, wAnd, wOr, wAndV, wOrV, wNotV, wIf, wTru, tru_non, tru_bl, tru_int, val_sh, val_lst, val_dT, val_dK, val_ins, intsD, fBl, fSub, fMul, fFdiv, fMod, fPow, fAddA_int, fAddA_form, fMulA_int, fIxA_rule0, fIxA_rule1, gT_rule, atI_c0, atI_c1, atI_c2, atI_c3, atI_c4, fLen, len_str, len_tup, len_slst, len_fz, len_lst, len_form, fInt, fIsA, isA_key, isA_ii, isA_is, isA_ib, isA_ss, wApp, wPar, wAugI, wChain, wYes, wipeE, wSl, woNone, woSome, fTupOf_tup, fTupOf_lst, fTupOf_slst, fTupOf_form, fLstOf, asL_slst, asL_lst, asR_slst, asR_fz, asR_lst, fMax, items_lst, items_fz, items_tup, items_form, items_str, wD0, wSetF, wFld, fields_ins, fields_sins, putFD, wMake, fIsN, fNotN, wDisp, wLc, wDcT, wGet2, isD_dT, isD_sdT, wPut, wForK]
  refine order_step (by decide) (by decide) rfl (by decide) (by decide) ?_
  refine ⟨by simp, by simp, ?_⟩
  simp only [List.set]
  refine order_step (by decide) (by decide) (by rw [lookK_putG]; rfl) (by decide) (by decide) ?_
  exact h
theorem check_order_3 {P : OT → Prop} (h : P (.sh .non)) : φ_check_order [.lst (intsL [0, 2, 1]), .int 3, .int 1] P := by
  have z2 : (3 : Nat) ≤ sizeLine := by decide
  simp [φ_check_order, w_check_order, N_check_order, wDef, env0, wEnds, wSeq, wIfS, wTst, wBin, wUse, wName, wC, wUn, wTup, wLst, waCons, waNil, wAsg, gVar, gTupD_mk, gsCons_mk, gsNil_mk, ex2, ex3, wRet, wRetN, wNext, wNever, wDrop, wFor, wiAny, wiRange1, wiRange2, wiEn, wCall, wNot, wAnd, wOr, wAndV, wOrV, wNotV, wIf, wTru, tru_non, tru_bl, tru_int, val_sh, val_lst, val_dT, val_dK, val_ins, intsD, fBl, fSub, fMul, fFdiv, fMod, fPow, fAddA_int, fAddA_form, fMulA_int, fIxA_rule0, fIxA_rule1, gT_rule, atI_c0, atI_c1, atI_c2, atI_c3, atI_c4, fLen, len_str, len_tup, len_slst, len_fz, len_lst, len_form, fInt, fIsA, isA_key, isA_ii, isA_is, isA_ib, isA_ss, wApp, wPar, wAugI, wChain, wYes, wipeE, wSl, woNone, woSome, fTupOf_tup, fTupOf_lst, fTupOf_slst, fTupOf_form, fLstOf, asL_slst, asL_lst, asR_slst, asR_fz, asR_lst, fMax, items_lst, items_fz, items_tup, items_form, items_str, wD0, wSetF, wFld, fields_ins, fields_sins, putFD, wMake, fIsN, fNotN, wDisp, wLc, wDcT, wGet2, isD_dT, isD_sdT, wPut, wForK, fNe_int, intsL, z2]
  refine .inl ?_
  simp only [enumD_cons, enumD, wLoop]
  simp [wDef, env0, wEnds, wSeq, wIfS, wTst, wBin, wUse, wName, wC, wUn, wTup, wLst, waCons, waNil, wAsg, gVar, gTupD_mk, gsCons_mk, gsNil_mk, ex2, ex3, wRet, wRetN, wNext, wNever, wDrop, wFor, wiAny, wiRange1, wiRange2, wiEn, wCall, wNot, wAnd, wOr, wAndV, wOrV, wNotV, wIf, wTru, tru_non, tru_bl, tru_int, val_sh, val_lst, val_dT, val_dK, val_ins, intsD, fBl, fSub, fMul, fFdiv, fMod, fPow, fAddA_int, fAddA_form, fMulA_int, fIxA_rule0, fIxA_rule1, gT_rule, atI_c0, atI_c1, atI_c2, atI_c3, atI_c4, fLen, len_str, len_tup, len_slst, len_fz, len_lst, len_form, fInt, fIsA, isA_key, isA_ii, isA_is, isA_ib, isA_ss, wApp, wPar, wAugI, wChain, wYes, wipeE, wSl, woNone, woSome, fTupOf_tup, fTupOf_lst, fTupOf_slst, fTupOf_form, fLstOf, asL_slst, asL_lst, asR_slst, asR_fz, asR_lst, fMax, items_lst, items_fz, items_tup, items_form, items_str, wD0, wSetF, wFld, fields_ins, fields_sins, putFD, wMake, fIsN, fNotN, wDisp, wLc, wDcT, wGet2, isD_dT, isD_sdT, wPut, wForK]
  refine order_step (by decide) (by decide) rfl (by decide) (by decide) ?_
  refine ⟨by simp, by simp, ?_⟩
  simp only [List.set]
  refine order_step (by decide) (by decide) (by rw [lookK_putG]; rfl) (by decide) (by decide) ?_
  refine ⟨by simp, by simp, ?_⟩
  simp only [List.set]
  refine order_step (by decide) (by decide) (by rw [lookK_putG, lookK_putG]; rfl) (by decide) (by decide) ?_
  exact h
/-! ### renamed -/
def renK (s : Int → Int) : Key → Key
  | .inl i => .inl (s i)
  | .inr x => .inr x
def renF (s : Int → Int) (f : List Key) : List Key := f.map (renK s)
def renR (s : Int → Int) (r : Rl) : Rl := (renF s r.1, renF s r.2)
def okVar (v : Int) : Key → Prop
  | .inl i => 0 ≤ i ∧ i < v
  | .inr _ => True
theorem ren_lc {o : List Int} {s : Int → Int} {v : Int} {F : OT} {R : OT → Env' → Prop} (ho : ∀ i, 0 ≤ i → i < v → atI o i = some (s i)) : ∀ (f acc : List Key), (∀ k ∈ f, okVar v k) → acc.length + f.length < 1000 →
    R (.lst ((acc ++ renF s f).map keyD)) [some F, some (.sh (.lst (intsL o))), none] →
    lcLoop [2] (gVar 2) wYes e_renamed_symbols_1 R (f.map keyD) (acc.map keyD) [some F, some (.sh (.lst (intsL o))), none]
  | [], acc, _, _, h => by simpa [lcLoop, renF] using h
  | k :: f, acc, ok, hl, h => by
    simp only [List.map_cons, lcLoop]
    simp only [List.length_cons] at hl
    have s2 : acc.length < sizeLine := by have := size_big; omega
    have q := ren_lc (F := F) (R := R) ho f (acc ++ [renK s k]) (fun k' m => ok k' (by simp [m])) (by simp; omega) (by simpa [renF] using h)
    simp [ue_renamed_symbols_1, wDef, env0, wEnds, wSeq, wIfS, wTst, wBin, wUse, wName, wC, wUn, wTup, wLst, waCons, waNil, wAsg, gVar, gTupD_mk, gsCons_mk, gsNil_mk, ex2, ex3, wRet, wRetN, wNext, wNever, wDrop, wFor, wiAny, wiRange1, wiRange2, wiEn, wCall, wNot, wAnd, wOr, wAndV, wOrV, wNotV, wIf, wTru, tru_non, tru_bl, tru_int, val_sh, val_lst, val_dT, val_dK, val_ins, intsD, fBl, fSub, fMul, fFdiv, fMod, fPow, fAddA_int, fAddA_form, fMulA_int, fIxA_rule0, fIxA_rule1, gT_rule, atI_c0, atI_c1, atI_c2, atI_c3, atI_c4, fLen, len_str, len_tup, len_slst, len_fz, len_lst, len_form, fInt, fIsA, isA_key, isA_ii, isA_is, isA_ib, isA_ss, wApp, wPar, wAugI, wChain, wYes, wipeE, wSl, woNone, woSome, fTupOf_tup, fTupOf_lst, fTupOf_slst, fTupOf_form, fLstOf, asL_slst, asL_lst, asR_slst, asR_fz, asR_lst, fMax, items_lst, items_fz, items_tup, items_form, items_str, wD0, wSetF, wFld, fields_ins, fields_sins, putFD, wMake, fIsN, fNotN, wDisp, wLc, wDcT, wGet2, isD_dT, isD_sdT, wPut, wForK]
    refine is_variable_key ?_
    cases k with
    | inr x =>
      simp [isV, tru_bl, s2, List.set, val_sh]
      simpa [renK] using q
    | inl i =>
      have hi := ok (.inl i) (by simp)
      have at1 : ∀ P : OT → Prop, fIxA (.sh (.lst (intsL o))) (.sh (keyD (.inl i))) P = P (.sh (.int (s i))) := fun P => by
        show fIxA (.sh (.lst (intsL o))) (.sh (.int i)) P = _
        rw [fIxA_slst, intsL, atI_map, ho i hi.1 hi.2]
        simp
      simp [isV, tru_bl, s2, List.set, at1, val_sh]
      simpa [renK, keyD] using q
theorem renamed_symbols_ok {o : List Int} {s : Int → Int} {v : Int} {f : List Key} {P : OT → Prop} (ho : ∀ i, 0 ≤ i → i < v → atI o i = some (s i)) (hf : ∀ k ∈ f, okVar v k) (hl : f.length < 100) (h : P (.sh (formD (renF s f)))) : φ_renamed_symbols [formD f, .lst (intsL o)] P := by
  simp [φ_renamed_symbols, w_renamed_symbols, N_renamed_symbols, wDef, env0, wEnds, wSeq, wIfS, wTst, wBin, wUse, wName, wC, wUn, wTup, wLst, waCons, waNil, wAsg, gVar, gTupD_mk, gsCons_mk, gsNil_mk, ex2, ex3, wRet, wRetN, wNext, wNever, wDrop, wFor, wiAny, wiRange1, wiRange2, wiEn, wCall, wNot, wAnd, wOr, wAndV, wOrV, wNotV, wIf, wTru, tru_non, tru_bl, tru_int, val_sh, val_lst, val_dT, val_dK, val_ins, intsD, fBl, fSub, fMul, fFdiv, fMod, fPow, fAddA_int, fAddA_form, fMulA_int, fIxA_rule0, fIxA_rule1, gT_rule, atI_c0, atI_c1, atI_c2, atI_c3, atI_c4, fLen, len_str, len_tup, len_slst, len_fz, len_lst, len_form, fInt, fIsA, isA_key, isA_ii, isA_is, isA_ib, isA_ss, wApp, wPar, wAugI, wChain, wYes, wipeE, wSl, woNone, woSome, fTupOf_tup, fTupOf_lst, fTupOf_slst, fTupOf_form, fLstOf, asL_slst, asL_lst, asR_slst, asR_fz, asR_lst, fMax, items_lst, items_fz, items_tup, items_form, items_str, wD0, wSetF, wFld, fields_ins, fields_sins, putFD, wMake, fIsN, fNotN, wDisp, wLc, wDcT, wGet2, isD_dT, isD_sdT, wPut, wForK]
  refine ren_lc (acc := []) ho f hf (by simp; omega) ?_
  simpa [wDef, env0, wEnds, wSeq, wIfS, wTst, wBin, wUse, wName, wC, wUn, wTup, wLst, waCons, waNil, wAsg, gVar, gTupD_mk, gsCons_mk, gsNil_mk, ex2, ex3, wRet, wRetN, wNext, wNever, wDrop, wFor, wiAny, wiRange1, wiRange2, wiEn, wCall, wNot, wAnd, wOr, wAndV, wOrV, wNotV, wIf, wTru, tru_non, tru_bl, tru_int, val_sh, val_lst, val_dT, val_dK, val_ins, intsD, fBl, fSub, fMul, fFdiv, fMod, fPow, fAddA_int, fAddA_form, fMulA_int, fIxA_rule0, fIxA_rule1, gT_rule, atI_c0, atI_c1, atI_c2, atI_c3, atI_c4, fLen, len_str, len_tup, len_slst, len_fz, len_lst, len_form, fInt, fIsA, isA_key, isA_ii, isA_is, isA_ib, isA_ss, wApp, wPar, wAugI, wChain, wYes, wipeE, wSl, woNone, woSome, fTupOf_tup, fTupOf_lst, fTupOf_slst, fTupOf_form, fLstOf, asL_slst, asL_lst, asR_slst, asR_fz, asR_lst, fMax, items_lst, items_fz, items_tup, items_form, items_str, wD0, wSetF, wFld, fields_ins, fields_sins, putFD, wMake, fIsN, fNotN, wDisp, wLc, wDcT, wGet2, isD_dT, isD_sdT, wPut, wForK, formD] using h
theorem okVar_sym {al : Str} {v : Int} {k : Key} (h : okSym al v k) : okVar v k := by
  cases k with
  | inl i => exact h
  | inr x => trivial
theorem renamed_loop {G : OT} {al : Str} {v : Int} {o : List Int} {s : Int → Int} {W : WEnds} (ho : ∀ i, 0 ≤ i → i < v → atI o i = some (s i)) : ∀ (rs out : List Rl) (x3 x4 : Option OT), (∀ r ∈ rs, okRule al v r) → out.length + rs.length < 1000 →
    (∀ x3 x4, W.nx [some G, some (.sh (.lst (intsL o))), some (.lst ((out ++ rs.map (renR s)).map ruleD)), x3, x4]) →
    wLoop (gTupD 2 (gsCons (gVar 3) (gsCons (gVar 4) gsNil))) b_renamed_1 W (rs.map ruleD) [some G, some (.sh (.lst (intsL o))), some (.lst (out.map ruleD)), x3, x4]
  | [], out, x3, x4, _, _, h => by simpa [wLoop] using h x3 x4
  | r :: rs, out, x3, x4, ok, hl, h => by
    simp only [List.map_cons, wLoop]
    simp only [List.length_cons] at hl
    have okr := ok r (by simp)
    have z2 : (2 : Nat) ≤ sizeLine := by decide
    have s2 : out.length < sizeLine := by have := size_big; omega
    simp [ub_renamed_1, wDef, env0, wEnds, wSeq, wIfS, wTst, wBin, wUse, wName, wC, wUn, wTup, wLst, waCons, waNil, wAsg, gVar, gTupD_mk, gsCons_mk, gsNil_mk, ex2, ex3, wRet, wRetN, wNext, wNever, wDrop, wFor, wiAny, wiRange1, wiRange2, wiEn, wCall, wNot, wAnd, wOr, wAndV, wOrV, wNotV, wIf, wTru, tru_non, tru_bl, tru_int, val_sh, val_lst, val_dT, val_dK, val_ins, intsD, fBl, fSub, fMul, fFdiv, fMod, fPow, fAddA_int, fAddA_form, fMulA_int, fIxA_rule0, fIxA_rule1, gT_rule, atI_c0, atI_c1, atI_c2, atI_c3, atI_c4, fLen, len_str, len_tup, len_slst, len_fz, len_lst, len_form, fInt, fIsA, isA_key, isA_ii, isA_is, isA_ib, isA_ss, wApp, wPar, wAugI, wChain, wYes, wipeE, wSl, woNone, woSome, fTupOf_tup, fTupOf_lst, fTupOf_slst, fTupOf_form, fLstOf, asL_slst, asL_lst, asR_slst, asR_fz, asR_lst, fMax, items_lst, items_fz, items_tup, items_form, items_str, wD0, wSetF, wFld, fields_ins, fields_sins, putFD, wMake, fIsN, fNotN, wDisp, wLc, wDcT, wGet2, isD_dT, isD_sdT, wPut, wForK]
    refine renamed_symbols_ok ho (fun k m => okVar_sym (okr.sl k m)) (by have := okr.ll; omega) ?_
    refine renamed_symbols_ok ho (fun k m => okVar_sym (okr.sr k m)) (by have := okr.rl; omega) ?_
    simp [z2, s2, val_sh]
    have q := renamed_loop (G := G) (W := W) ho rs (out ++ [renR s r]) (some (.sh (formD r.1))) (some (.sh (formD r.2))) (fun r' m => ok r' (by simp [m])) (by simp; omega) (by simpa using h)
    simpa [ruleD, renR] using q
theorem renamed_ok {al : Str} {v : Int} {rs : List Rl} {o : List Int} {s : Int → Int} {P : OT → Prop} (ok : okGr al v rs) (ho : ∀ i, 0 ≤ i → i < v → atI o i = some (s i)) (hs : ∀ r ∈ rs, okRule al v (renR s r)) (hc : ∀ P : OT → Prop, P (.sh .non) → φ_check_order [.lst (intsL o), .int v, .int 1] P)
    (h : ∀ a, P (.ins a "Grammar" (grF al v (rs.map (renR s))))) : φ_renamed [grD al v rs, .lst (intsL o)] P := by
  simp [φ_renamed, w_renamed, N_renamed, wDef, env0, wEnds, wSeq, wIfS, wTst, wBin, wUse, wName, wC, wUn, wTup, wLst, waCons, waNil, wAsg, gVar, gTupD_mk, gsCons_mk, gsNil_mk, ex2, ex3, wRet, wRetN, wNext, wNever, wDrop, wFor, wiAny, wiRange1, wiRange2, wiEn, wCall, wNot, wAnd, wOr, wAndV, wOrV, wNotV, wIf, wTru, tru_non, tru_bl, tru_int, val_sh, val_lst, val_dT, val_dK, val_ins, intsD, fBl, fSub, fMul, fFdiv, fMod, fPow, fAddA_int, fAddA_form, fMulA_int, fIxA_rule0, fIxA_rule1, gT_rule, atI_c0, atI_c1, atI_c2, atI_c3, atI_c4, fLen, len_str, len_tup, len_slst, len_fz, len_lst, len_form, fInt, fIsA, isA_key, isA_ii, isA_is, isA_ib, isA_ss, wApp, wPar, wAugI, wChain, wYes, wipeE, wSl, woNone, woSome, fTupOf_tup, fTupOf_lst, fTupOf_slst, fTupOf_form, fLstOf, asL_slst, asL_lst, asR_slst, asR_fz, asR_lst, fMax, items_lst, items_fz, items_tup, items_form, items_str, wD0, wSetF, wFld, fields_ins, fields_sins, putFD, wMake, fIsN, fNotN, wDisp, wLc, wDcT, wGet2, isD_dT, isD_sdT, wPut, wForK, fld_g, lk_v]
  refine hc _ ?_
  simp [fld_g, lk_r, items_tup, val_sh]
  refine renamed_loop (out := []) ho rs _ _ ok.r (by have := ok.n; simp; omega) fun x3 x4 => ?_
  simp [wDef, env0, wEnds, wSeq, wIfS, wTst, wBin, wUse, wName, wC, wUn, wTup, wLst, waCons, waNil, wAsg, gVar, gTupD_mk, gsCons_mk, gsNil_mk, ex2, ex3, wRet, wRetN, wNext, wNever, wDrop, wFor, wiAny, wiRange1, wiRange2, wiEn, wCall, wNot, wAnd, wOr, wAndV, wOrV, wNotV, wIf, wTru, tru_non, tru_bl, tru_int, val_sh, val_lst, val_dT, val_dK, val_ins, intsD, fBl, fSub, fMul, fFdiv, fMod, fPow, fAddA_int, fAddA_form, fMulA_int, fIxA_rule0, fIxA_rule1, gT_rule, atI_c0, atI_c1, atI_c2, atI_c3, atI_c4, fLen, len_str, len_tup, len_slst, len_fz, len_lst, len_form, fInt, fIsA, isA_key, isA_ii, isA_is, isA_ib, isA_ss, wApp, wPar, wAugI, wChain, wYes, wipeE, wSl, woNone, woSome, fTupOf_tup, fTupOf_lst, fTupOf_slst, fTupOf_form, fLstOf, asL_slst, asL_lst, asR_slst, asR_fz, asR_lst, fMax, items_lst, items_fz, items_tup, items_form, items_str, wD0, wSetF, wFld, fields_ins, fields_sins, putFD, wMake, fIsN, fNotN, wDisp, wLc, wDcT, wGet2, isD_dT, isD_sdT, wPut, wForK, fld_g, lk_al, lk_v]
  intro a
  have e : List.map (ruleD ∘ renR s) rs = (rs.map (renR s)).map ruleD := by simp
  rw [e]
  refine init_ok ok.hal ok.hv (fun r m => ?_) (by have := ok.n; have := size_big; simp; omega) (h a)
  obtain ⟨r', m', rfl⟩ := List.mem_map.mp m
  exact hs r' m'
end EW

set_option maxHeartbeats 4000000
/-! k70, plain: the numbers: a level's pairing with the ways down. -/
namespace EW
open PySem PySem.Spec L2 EV
abbrev Fm := List Key
abbrev Lv := List (Fm × Int)
def val (l : Lv) (f : Fm) : Int := (lookK l f).getD 0
def keysOf (l : Lv) : List Fm := l.map (·.1)
def pr (l : Lv) (φ : Fm → Int) : Int := (l.map fun p => p.2 * φ p.1).sum
theorem pr_cons (p : Fm × Int) (l : Lv) (φ : Fm → Int) : pr (p :: l) φ = p.2 * φ p.1 + pr l φ := by simp [pr]
theorem pr_append (l m : Lv) (φ : Fm → Int) : pr (l ++ m) φ = pr l φ + pr m φ := by simp [pr]
theorem lookK_none_iff (l : Lv) (f : Fm) : lookK l f = none ↔ f ∉ keysOf l := by
  induction l with
  | nil => simp [lookK, keysOf]
  | cons p l ih =>
    obtain ⟨k, v⟩ := p
    unfold lookK at ih ⊢
    simp only [List.find?_cons, keysOf, List.map_cons, List.mem_cons]
    by_cases h : k = f
    · simp [h]
    · simp only [decide_eq_false h]
      have : ¬ f = k := fun e => h e.symm
      simp only [this, false_or]
      exact ih
theorem val_cons (k : Fm) (v : Int) (l : Lv) (f : Fm) : val ((k, v) :: l) f = if k = f then v else val l f := by
  unfold val lookK
  simp only [List.find?_cons]
  by_cases h : k = f
  · simp [h]
  · simp [h]
theorem any_key (l : Lv) (k : Fm) : (l.any fun kv => decide (kv.1 = k)) = true ↔ k ∈ keysOf l := by
  rw [List.any_eq_true]
  unfold keysOf
  rw [List.mem_map]
  refine ⟨fun ⟨p, m, e⟩ => ⟨p, m, of_decide_eq_true e⟩, fun ⟨p, m, e⟩ => ⟨p, m, decide_eq_true e⟩⟩
theorem putG_in {l : Lv} {k : Fm} (v : Int) (h : k ∈ keysOf l) : putG l k v = l.map fun kv => if kv.1 = k then (kv.1, v) else kv := by
  unfold putG
  rw [if_pos ((any_key l k).mpr h)]
theorem putG_out {l : Lv} {k : Fm} (v : Int) (h : k ∉ keysOf l) : putG l k v = l ++ [(k, v)] := by
  unfold putG
  rw [if_neg (fun z => h ((any_key l k).mp z))]
theorem keys_in {l : Lv} {k : Fm} (v : Int) (h : k ∈ keysOf l) : keysOf (putG l k v) = keysOf l := by
  rw [putG_in v h]
  unfold keysOf
  rw [List.map_map]
  refine List.map_congr_left fun p _ => ?_
  simp only [Function.comp]
  split <;> rfl
theorem keys_out {l : Lv} {k : Fm} (v : Int) (h : k ∉ keysOf l) : keysOf (putG l k v) = keysOf l ++ [k] := by
  rw [putG_out v h]
  simp [keysOf]
theorem keys_nodup {l : Lv} {k : Fm} {v : Int} (h : (keysOf l).Nodup) : (keysOf (putG l k v)).Nodup := by
  by_cases hk : k ∈ keysOf l
  · rw [keys_in v hk]; exact h
  · rw [keys_out v hk, List.nodup_append]
    refine ⟨h, by simp, fun a ha b hb => ?_⟩
    simp at hb
    subst hb
    exact fun e => hk (e ▸ ha)
/-- a level with v more at k -/
theorem pr_put {l : Lv} (hn : (keysOf l).Nodup) (k : Fm) (v : Int) (φ : Fm → Int) : pr (putG l k (val l k + v)) φ = pr l φ + v * φ k := by
  by_cases h : k ∈ keysOf l
  · rw [putG_in _ h]
    induction l with
    | nil => simp [keysOf] at h
    | cons p l ih =>
      obtain ⟨a, b⟩ := p
      simp only [keysOf, List.map_cons, List.nodup_cons] at hn
      rw [List.map_cons, pr_cons, pr_cons, val_cons]
      by_cases e : a = k
      · subst e
        have hk : a ∉ keysOf l := hn.1
        have hm : (l.map fun kv => if kv.1 = a then (kv.1, (if a = a then b else val l a) + v) else kv) = l := by
          refine (List.map_congr_left fun p hp => ?_).trans (List.map_id l)
          have : p.1 ≠ a := fun z => hk (z ▸ List.mem_map_of_mem hp)
          simp [this]
        simp only [if_pos] at hm ⊢
        rw [hm, Int.add_mul]
        omega
      · have hk : k ∈ keysOf l := by
          simp only [keysOf, List.map_cons, List.mem_cons] at h
          exact h.resolve_left fun z => e z.symm
        simp only [if_neg e]
        rw [ih hn.2 hk]
        omega
  · rw [putG_out _ h, pr_append]
    have : val l k = 0 := by unfold val; rw [(lookK_none_iff l k).mpr h]; rfl
    rw [this]
    simp [pr]
/-- the pairing with one form alone -/
def del (k : Fm) : Fm → Int := fun f => if f = k then 1 else 0
theorem pr_del {l : Lv} (hn : (keysOf l).Nodup) (k : Fm) : pr l (del k) = val l k := by
  induction l with
  | nil => rfl
  | cons p l ih =>
    obtain ⟨a, b⟩ := p
    simp only [keysOf, List.map_cons, List.nodup_cons] at hn
    rw [pr_cons, val_cons]
    by_cases e : a = k
    · subst e
      have : val l a = 0 := by unfold val; rw [(lookK_none_iff l a).mpr hn.1]; rfl
      rw [ih hn.2, this]
      simp [del]
    · rw [ih hn.2]
      simp [del, e]
/-! ### the ways down -/
def bf (rs : List Rl) (f : Fm) : List Fm := (befs 0 rs f).map (·.2.2)
def up (rs : List Rl) (φ : Fm → Int) : Fm → Int := fun f => ((bf rs f).map φ).sum
def dn (rs : List Rl) : Nat → Fm → Int
  | 0 => del [.inl 0]
  | t + 1 => up rs (dn rs t)
def cnt (rs : List Rl) (f : Fm) : Nat → Int
  | 0 => 0
  | n + 1 => cnt rs f n + dn rs (n + 1) f
theorem befs_map (g : Fm → Fm) (m n : Nat) : ∀ (rs : List Rl) (f : Fm), (befs m rs f).map (·.2.2) = (befs n rs f).map (·.2.2)
  | rs, f => by
    induction rs generalizing m n with
    | nil => rfl
    | cons r rs ih =>
      simp only [befs, List.map_append]
      rw [ih (m + 1) (n + 1)]
      congr 1
      unfold bsr
      rw [List.map_filterMap, List.map_filterMap]
      congr 1
      funext p
      unfold bst
      split <;> rfl
theorem sum_nonneg {l : List Int} (h : ∀ x ∈ l, 0 ≤ x) : 0 ≤ l.sum := by
  induction l with
  | nil => simp
  | cons a l ih =>
    have h1 := h a (by simp)
    have h2 := ih fun x m => h x (by simp [m])
    simp only [List.sum_cons]
    omega
theorem dn_nonneg (rs : List Rl) : ∀ (t : Nat) (f : Fm), 0 ≤ dn rs t f
  | 0, f => by unfold dn del; split <;> decide
  | t + 1, f => by
    refine sum_nonneg fun x m => ?_
    obtain ⟨g, _, rfl⟩ := List.mem_map.mp m
    exact dn_nonneg rs t g
theorem befs_append (r : Rl) : ∀ (rs : List Rl) (n : Nat) (f : Fm), befs n (rs ++ [r]) f = befs n rs f ++ bsr (n + rs.length) r f
  | [], n, f => by simp [befs]
  | s :: rs, n, f => by
    simp only [List.cons_append, befs, befs_append r rs (n + 1) f, List.append_assoc, List.length_cons]
    rw [show n + 1 + rs.length = n + (rs.length + 1) by omega]
theorem sum_le {α : Type} (φ ψ : α → Int) : ∀ l : List α, (∀ x ∈ l, φ x ≤ ψ x) → (l.map φ).sum ≤ (l.map ψ).sum
  | [], _ => by simp
  | a :: l, h => by
    have h1 := h a (by simp)
    have h2 := sum_le φ ψ l fun x m => h x (by simp [m])
    simp only [List.map_cons, List.sum_cons]
    omega
theorem dn_more (rs : List Rl) (r : Rl) : ∀ (t : Nat) (f : Fm), dn rs t f ≤ dn (rs ++ [r]) t f
  | 0, f => Int.le_refl _
  | t + 1, f => by
    show ((bf rs f).map (dn rs t)).sum ≤ ((bf (rs ++ [r]) f).map (dn (rs ++ [r]) t)).sum
    have e : bf (rs ++ [r]) f = bf rs f ++ (bsr (0 + rs.length) r f).map (·.2.2) := by
      unfold bf
      rw [befs_append, List.map_append]
    rw [e, List.map_append, List.sum_append]
    have h1 := sum_le (dn rs t) (dn (rs ++ [r]) t) (bf rs f) fun x _ => dn_more rs r t x
    have h2 : 0 ≤ (((bsr (0 + rs.length) r f).map (·.2.2)).map (dn (rs ++ [r]) t)).sum := sum_nonneg fun x m => by
      obtain ⟨g, _, rfl⟩ := List.mem_map.mp m
      exact dn_nonneg _ t g
    omega
theorem cnt_more (rs : List Rl) (r : Rl) (f : Fm) : ∀ n, cnt rs f n ≤ cnt (rs ++ [r]) f n
  | 0 => Int.le_refl _
  | n + 1 => by
    have h1 := cnt_more rs r f n
    have h2 := dn_more rs r (n + 1) f
    simp only [cnt]
    omega
theorem cnt_mono (rs : List Rl) (f : Fm) (n : Nat) : cnt rs f n ≤ cnt rs f (n + 1) := by
  have := dn_nonneg rs (n + 1) f
  simp only [cnt]
  omega
theorem cnt_nonneg (rs : List Rl) (f : Fm) : ∀ n, 0 ≤ cnt rs f n
  | 0 => Int.le_refl _
  | n + 1 => Int.le_trans (cnt_nonneg rs f n) (cnt_mono rs f n)
/-! ### renaming -/
theorem cutL_map {α β : Type} (g : α → β) (xs : List α) (lo hi : Option Int) : cutL (xs.map g) lo hi = (cutL xs lo hi).map g := by simp [cutL, List.map_take, List.map_drop]
theorem renF_inj {s : Int → Int} (hs : ∀ i, s (s i) = i) {f g : Fm} (h : renF s f = renF s g) : f = g := by
  have key : ∀ k, renK s (renK s k) = k := fun k => by cases k <;> simp [renK, hs]
  have e : ∀ f, renF s (renF s f) = f := fun f => by
    unfold renF
    rw [List.map_map]
    exact (List.map_congr_left fun k _ => key k).trans (List.map_id f)
  rw [← e f, h, e g]
theorem bst_ren {s : Int → Int} (hs : ∀ i, s (s i) = i) (n : Nat) (r : Rl) (f : Fm) (p : Nat) : bst n (renR s r) (renF s f) p = (bst n r f p).map fun u => (u.1, u.2.1, renF s u.2.2) := by
  unfold bst
  have l2 : (renR s r).2.length = r.2.length := by simp [renR, renF]
  rw [l2]
  have c : (cutL (renF s f) (some (p : Int)) (some ((p : Int) + r.2.length)) = (renR s r).2) = (cutL f (some (p : Int)) (some ((p : Int) + r.2.length)) = r.2) := by
    unfold renR
    rw [show renF s f = f.map (renK s) from rfl, cutL_map]
    refine propext ⟨fun h => renF_inj hs h, fun h => by rw [h]; rfl⟩
  simp only [c]
  split
  · simp only [Option.map_some, renR]
    rw [show renF s f = f.map (renK s) from rfl, cutL_map, cutL_map]
    simp [renF]
  · rfl
theorem befs_ren {s : Int → Int} (hs : ∀ i, s (s i) = i) : ∀ (rs : List Rl) (n : Nat) (f : Fm), befs n (rs.map (renR s)) (renF s f) = (befs n rs f).map fun u => (u.1, u.2.1, renF s u.2.2)
  | [], n, f => rfl
  | r :: rs, n, f => by
    simp only [List.map_cons, befs, List.map_append, befs_ren hs rs (n + 1) f]
    congr 1
    unfold bsr
    have l2 : (renR s r).2.length = r.2.length := by simp [renR, renF]
    have l1 : (renF s f).length = f.length := by simp [renF]
    rw [l1, l2, List.map_filterMap]
    congr 1
    funext p
    exact bst_ren hs n r f p
theorem dn_ren {s : Int → Int} (hs : ∀ i, s (s i) = i) (h0 : s 0 = 0) (rs : List Rl) : ∀ (t : Nat) (f : Fm), dn (rs.map (renR s)) t (renF s f) = dn rs t f
  | 0, f => by
    have e : renF s [.inl 0] = [.inl 0] := by simp [renF, renK, h0]
    have : (renF s f = [.inl 0]) = (f = [.inl 0]) := propext ⟨fun h => renF_inj hs (h.trans e.symm), fun h => by rw [h, e]⟩
    simp only [dn, del, this]
  | t + 1, f => by
    show ((bf _ _).map _).sum = ((bf _ _).map _).sum
    unfold bf
    rw [befs_ren hs, List.map_map, List.map_map, List.map_map]
    congr 1
    refine List.map_congr_left fun u _ => ?_
    exact dn_ren hs h0 rs t u.2.2
theorem cnt_ren {s : Int → Int} (hs : ∀ i, s (s i) = i) (h0 : s 0 = 0) (rs : List Rl) (f : Fm) : ∀ n, cnt (rs.map (renR s)) (renF s f) n = cnt rs f n
  | 0 => rfl
  | n + 1 => by simp only [cnt, cnt_ren hs h0 rs f n, dn_ren hs h0]
end EW

set_option maxHeartbeats 4000000
/-! k70, plain: the forms there are; the law's own count. -/
namespace EW
open PySem PySem.Spec L2 EV
def SS : List Key := [ltr 97, ltr 98, .inl 0, .inl 1, .inl 2]
/-- short forms -/
def sf (f : Fm) : Prop := (∀ k ∈ f, k ∈ SS) ∧ f.length ≤ 3
def UU : List Fm := [] :: (SS.map fun a => [a]) ++ (SS.flatMap fun a => SS.map fun b => [a, b]) ++ SS.flatMap fun a => SS.flatMap fun b => SS.map fun c => [a, b, c]
theorem sf_UU {f : Fm} (h : sf f) : f ∈ UU := by
  obtain ⟨h1, h2⟩ := h
  unfold UU
  simp only [List.cons_append, List.mem_cons, List.mem_append, List.mem_map, List.mem_flatMap]
  match f, h1, h2 with
  | [], _, _ => exact .inl rfl
  | [a], h1, _ => exact .inr (.inl (.inl ⟨a, h1 a (by simp), rfl⟩))
  | [a, b], h1, _ => exact .inr (.inl (.inr ⟨a, h1 a (by simp), b, h1 b (by simp), rfl⟩))
  | [a, b, c], h1, _ => exact .inr (.inr ⟨a, h1 a (by simp), b, h1 b (by simp), c, h1 c (by simp), rfl⟩)
  | _ :: _ :: _ :: _ :: _, _, h2 => simp at h2
theorem UU_len : UU.length = 156 := by decide +kernel
theorem nodup_le {α : Type} : ∀ (l u : List α), l.Nodup → (∀ x ∈ l, x ∈ u) → l.length ≤ u.length
  | [], _, _, _ => Nat.zero_le _
  | x :: l, u, hn, h => by
    obtain ⟨s, t, e⟩ := List.append_of_mem (h x (by simp))
    subst e
    rw [List.nodup_cons] at hn
    have := nodup_le l (s ++ t) hn.2 fun y m => by
      have q := h y (by simp [m])
      simp only [List.mem_append, List.mem_cons] at q ⊢
      rcases q with q | q | q
      · exact .inl q
      · subst q; exact (hn.1 m).elim
      · exact .inr q
    simp only [List.length_append, List.length_cons] at this ⊢
    omega
theorem short_len {l : List Fm} (hn : l.Nodup) (h : ∀ f ∈ l, sf f) : l.length ≤ 156 := by
  rw [← UU_len]
  exact nodup_le l UU hn fun f m => sf_UU (h f m)
theorem SS_sym {al : Str} {v : Int} {k : Key} (ha : okAl al) (hv : v ≤ 3) (h : okSym al v k) : k ∈ SS := by
  cases k with
  | inl i =>
    have : i = 0 ∨ i = 1 ∨ i = 2 := by have := h.1; have := h.2; omega
    rcases this with rfl | rfl | rfl <;> simp [SS]
  | inr x =>
    obtain ⟨c, rfl, hc⟩ := h
    have : c = 97 ∨ c = 98 := by
      rcases ha with rfl | rfl
      · simpa [abS] using hc
      · have : c = 97 := by simpa [aS] using hc
        exact .inl this
    rcases this with rfl | rfl <;> simp [SS, ltr]
theorem SS_ok : ∀ k ∈ SS, okK k = true := by decide +kernel
theorem sf_ok {f : Fm} (h : sf f) : okF f = true := List.all_eq_true.mpr fun k m => SS_ok k (h.1 k m)
theorem cutL_from {α : Type} (xs : List α) {m : Int} (h : 0 ≤ m) : cutL xs (some m) none = xs.drop m.toNat := by
  have e : m = ((m.toNat : Nat) : Int) := by omega
  unfold cutL
  rw [HT.sIx_none]
  have e2 : HT.sIx xs.length 0 (some m) = min m.toNat xs.length := by
    conv => lhs; rw [e]
    exact HT.sIx_nat _ _ _
  rw [e2]
  rcases Nat.le_total m.toNat xs.length with q | q
  · rw [Nat.min_eq_left q, List.take_of_length_le (by simp)]
  · rw [Nat.min_eq_right q, List.drop_length, List.drop_of_length_le q]
    simp
/-- rules whose undoings keep forms short -/
def okUn (rs : List Rl) : Prop := ∀ r ∈ rs, (∀ k ∈ r.1, k ∈ SS) ∧ okF r.2 = true ∧ r.1.length ≤ 2 ∧ r.2.length ≤ 3 ∧ (0 < r.2.length → r.1.length ≤ r.2.length)
theorem okUn_gr {al : Str} {v : Int} {rs : List Rl} (ok : okGr al v rs) (hv : v ≤ 3) : okUn rs := fun r m => by
  have h := ok.r r m
  refine ⟨fun k mk => SS_sym ok.hal hv (h.sl k mk), okF_syms ok.hal h.sr, h.ll, h.rl, fun hp => ?_⟩
  rcases ok.k r m with q | ⟨_, q⟩
  · exact q
  · rw [q] at hp; simp at hp
theorem bf_short {f : Fm} (hf : sf f) : ∀ {rs : List Rl} (n : Nat), okUn rs → ∀ u ∈ befs n rs f, sf u.2.2
  | [], n, _, u, m => by simp [befs] at m
  | r :: rs, n, ok, u, m => by
    simp only [befs, List.mem_append] at m
    rcases m with m | m
    · unfold bsr at m
      rw [List.mem_filterMap] at m
      obtain ⟨p, hp, e⟩ := m
      rw [List.mem_range] at hp
      unfold bst at e
      split at e
      · rename_i c
        cases e
        obtain ⟨o1, o2, o3, o4, o5⟩ := ok r (by simp)
        have hle := o5 c.1
        rw [cutL_to _ (by omega), cutL_from _ (by omega)]
        refine ⟨fun k mk => ?_, ?_⟩
        · simp only [List.mem_append] at mk
          rcases mk with (mk | mk) | mk
          · exact hf.1 k (List.mem_of_mem_take mk)
          · exact o1 k mk
          · exact hf.1 k (List.mem_of_mem_drop mk)
        · have := hf.2
          simp only [List.length_append, List.length_take, List.length_drop]
          omega
      · cases e
    · exact bf_short hf (n + 1) (fun r' m' => ok r' (by simp [m'])) u m
/-! ### levels as data -/
def lvD (l : Lv) : List (Fm × D) := l.map fun p => (p.1, .int p.2)
theorem lvD_look (l : Lv) (f : Fm) : lookK (lvD l) f = (lookK l f).map .int := by
  induction l with
  | nil => rfl
  | cons p l ih =>
    obtain ⟨a, b⟩ := p
    unfold lookK lvD at ih ⊢
    simp only [List.map_cons, List.find?_cons]
    by_cases h : a = f
    · simp [h]
    · simp only [decide_eq_false h]
      exact ih
theorem lvD_put (l : Lv) (f : Fm) (v : Int) : putG (lvD l) f (.int v) = lvD (putG l f v) := by
  have e : ((lvD l).any fun kv => decide (kv.1 = f)) = l.any fun kv => decide (kv.1 = f) := by
    unfold lvD
    rw [List.any_map]
    rfl
  unfold putG
  rw [e]
  split
  · unfold lvD
    rw [List.map_map, List.map_map]
    refine List.map_congr_left fun p _ => ?_
    simp only [Function.comp]
    split <;> rfl
  · simp [lvD]
theorem lvD_len (l : Lv) : (lvD l).length = l.length := by simp [lvD]
theorem orElse_val (l : Lv) (f : Fm) : orElse (lookK (lvD l) f) (.int 0) = .int (val l f) := by
  rw [lvD_look]
  unfold val
  cases lookK l f <;> rfl
theorem keysOf_len (l : Lv) : (keysOf l).length = l.length := by simp [keysOf]
theorem putD_T {ds : List (Fm × D)} {f : Fm} {d : D} (h : ds.length < sizeLine) : putD (.dT ds) (.sh (formD f)) d (.dT (putG ds f d)) := .inr (.inl ⟨ds, f, rfl, rfl, h, rfl⟩)
theorem tri2 {u : Un} {P : OT → Prop} : fIxA (.sh (unL u)) (.sh (.int 2)) P = P (.sh (formD u.2.2)) := by simp [unL, fIxA_slst, atI_c2]
/-- a level under way -/
structure okLv (l : Lv) : Prop where
  n : (keysOf l).Nodup
  s : ∀ f ∈ keysOf l, sf f
theorem okLv.len {l : Lv} (h : okLv l) : l.length ≤ 156 := by rw [← keysOf_len]; exact short_len h.n h.s
theorem okLv.put {l : Lv} (h : okLv l) {f : Fm} (v : Int) (hf : sf f) : okLv (putG l f v) := by
  refine ⟨keys_nodup h.n, fun g m => ?_⟩
  by_cases hk : f ∈ keysOf l
  · rw [keys_in v hk] at m; exact h.s g m
  · rw [keys_out v hk] at m
    rcases List.mem_append.mp m with m | m
    · exact h.s g m
    · simp at m; rw [m]; exact hf
theorem cr_l1 {rules : OT} {T NN TT : OT} {L : Lv} {f : Fm} {c : Int} {x5 x9 : Option OT} {W : WEnds} (hc : lookK L f = some c) : ∀ (us : List Un) (A : Lv) (x8 : Option OT), okLv A → (∀ u ∈ us, sf u.2.2) →
    (∀ A' x8, okLv A' → (∀ φ, pr A' φ = pr A φ + c * ((us.map fun u => φ u.2.2).sum)) → W.nx [some rules, some T, some NN, some TT, some (.sh (.dT (lvD L))), x5, some (.dT (lvD A')), some (.sh (formD f)), x8, x9]) →
    wLoop (gVar 8) b__law_counted_rows_2 W (us.map unL) [some rules, some T, some NN, some TT, some (.sh (.dT (lvD L))), x5, some (.dT (lvD A)), some (.sh (formD f)), x8, x9]
  | [], A, x8, hA, _, h => h A x8 hA fun φ => by simp
  | u :: us, A, x8, hA, hu, h => by
    simp only [List.map_cons, wLoop]
    have hl : (lvD A).length < sizeLine := by have := hA.len; rw [lvD_len]; have := size_big; omega
    have g1 : ∀ r, dGet (.dT (lvD A)) (.sh (formD u.2.2)) r = (r = lookK (lvD A) u.2.2) := fun r => dGet_T rfl rfl
    have g2 : ∀ P : OT → Prop, fIxA (.sh (.dT (lvD L))) (.sh (formD f)) P = P (.sh (.int c)) := fun P => by
      rw [fIxA_T (kvs := lvD L) rfl rfl, lvD_look, hc]
      simp
    simp [ub__law_counted_rows_2, wDef, env0, wEnds, wSeq, wIfS, wTst, wBin, wUse, wName, wC, wUn, wTup, wLst, waCons, waNil, wAsg, gVar, gTupD_mk, gsCons_mk, gsNil_mk, ex2, ex3, wRet, wRetN, wNext, wNever, wDrop, wFor, wiAny, wiRange1, wiRange2, wiEn, wCall, wNot, wAnd, wOr, wAndV, wOrV, wNotV, wIf, wTru, tru_non, tru_bl, tru_int, val_sh, val_lst, val_dT, val_dK, val_ins, intsD, fBl, fSub, fMul, fFdiv, fMod, fPow, fAddA_int, fAddA_form, fMulA_int, fIxA_rule0, fIxA_rule1, gT_rule, atI_c0, atI_c1, atI_c2, atI_c3, atI_c4, fLen, len_str, len_tup, len_slst, len_fz, len_lst, len_form, fInt, fIsA, isA_key, isA_ii, isA_is, isA_ib, isA_ss, wApp, wPar, wAugI, wChain, wYes, wipeE, wSl, woNone, woSome, fTupOf_tup, fTupOf_lst, fTupOf_slst, fTupOf_form, fLstOf, asL_slst, asL_lst, asR_slst, asR_fz, asR_lst, fMax, items_lst, items_fz, items_tup, items_form, items_str, wD0, wSetF, wFld, fields_ins, fields_sins, putFD, wMake, fIsN, fNotN, wDisp, wLc, wDcT, wGet2, isD_dT, isD_sdT, wPut, wForK, tri2, g1, g2, orElse_val]
    refine ⟨_, putD_T hl, ?_⟩
    rw [lvD_put]
    refine cr_l1 hc us _ _ (hA.put _ (hu u (by simp))) (fun u' m => hu u' (by simp [m])) fun A' x8 hA' hφ => ?_
    refine h A' x8 hA' fun φ => ?_
    rw [hφ φ, pr_put hA.n]
    simp only [List.map_cons, List.sum_cons, Int.mul_add]
    omega
theorem look_mem {l : Lv} (hn : (keysOf l).Nodup) {f : Fm} {c : Int} (h : (f, c) ∈ l) : lookK l f = some c := by
  induction l with
  | nil => simp at h
  | cons p l ih =>
    obtain ⟨a, b⟩ := p
    simp only [keysOf, List.map_cons, List.nodup_cons] at hn
    unfold lookK at ih ⊢
    simp only [List.find?_cons]
    rcases List.mem_cons.mp h with e | m
    · cases e; simp
    · have : a ≠ f := fun z => hn.1 (z ▸ List.mem_map_of_mem (f := (·.1)) m)
      simp only [decide_eq_false this]
      exact ih hn.2 m
theorem cr_l2 {rs : List Rl} {T NN TT : OT} {L : Lv} {x5 x9 : Option OT} {W : WEnds} (ok : okUn rs) (hn : rs.length ≤ 17) (hL : okLv L) : ∀ (M : Lv) (A : Lv) (x7 x8 : Option OT), okLv A → (∀ p ∈ M, p ∈ L) →
    (∀ A' x7 x8, okLv A' → (∀ φ, pr A' φ = pr A φ + pr M (up rs φ)) → W.nx [some (.sh (rulesD rs)), some T, some NN, some TT, some (.sh (.dT (lvD L))), x5, some (.dT (lvD A')), x7, x8, x9]) →
    wLoop (gVar 7) b__law_counted_rows_3 W (M.map fun p => formD p.1) [some (.sh (rulesD rs)), some T, some NN, some TT, some (.sh (.dT (lvD L))), x5, some (.dT (lvD A)), x7, x8, x9]
  | [], A, x7, x8, hA, _, h => h A x7 x8 hA fun φ => by simp [pr]
  | (f, c) :: M, A, x7, x8, hA, hM, h => by
    simp only [List.map_cons, wLoop]
    have hc := look_mem hL.n (hM (f, c) (by simp))
    have hf : sf f := hL.s f (List.mem_map_of_mem (f := (·.1)) (hM (f, c) (by simp)))
    simp [ub__law_counted_rows_3, wDef, env0, wEnds, wSeq, wIfS, wTst, wBin, wUse, wName, wC, wUn, wTup, wLst, waCons, waNil, wAsg, gVar, gTupD_mk, gsCons_mk, gsNil_mk, ex2, ex3, wRet, wRetN, wNext, wNever, wDrop, wFor, wiAny, wiRange1, wiRange2, wiEn, wCall, wNot, wAnd, wOr, wAndV, wOrV, wNotV, wIf, wTru, tru_non, tru_bl, tru_int, val_sh, val_lst, val_dT, val_dK, val_ins, intsD, fBl, fSub, fMul, fFdiv, fMod, fPow, fAddA_int, fAddA_form, fMulA_int, fIxA_rule0, fIxA_rule1, gT_rule, atI_c0, atI_c1, atI_c2, atI_c3, atI_c4, fLen, len_str, len_tup, len_slst, len_fz, len_lst, len_form, fInt, fIsA, isA_key, isA_ii, isA_is, isA_ib, isA_ss, wApp, wPar, wAugI, wChain, wYes, wipeE, wSl, woNone, woSome, fTupOf_tup, fTupOf_lst, fTupOf_slst, fTupOf_form, fLstOf, asL_slst, asL_lst, asR_slst, asR_fz, asR_lst, fMax, items_lst, items_fz, items_tup, items_form, items_str, wD0, wSetF, wFld, fields_ins, fields_sins, putFD, wMake, fIsN, fNotN, wDisp, wLc, wDcT, wGet2, isD_dT, isD_sdT, wPut, wForK]
    refine lbef_ok (fun r m => ⟨(ok r m).2.1, (ok r m).2.2.1, (ok r m).2.2.2.1⟩) hn (sf_ok hf) (by have := hf.2; omega) ?_
    simp [val_lst, items_lst]
    refine cr_l1 hc _ A _ hA (bf_short hf 0 ok) fun A' y8 hA' hφ => ?_
    refine cr_l2 ok hn hL M A' _ _ hA' (fun p m => hM p (by simp [m])) fun A2 z7 z8 hA2 hφ2 => ?_
    refine h A2 z7 z8 hA2 fun φ => ?_
    rw [hφ2 φ, hφ φ, pr_cons]
    have e : (List.map (fun u => φ u.2.2) (befs 0 rs f)).sum = up rs φ f := by
      unfold up bf
      rw [List.map_map]
      rfl
    rw [e]
    exact Int.add_assoc _ _ _
/-- a level t steps from f0 -/
def atStep (rs : List Rl) (f0 : Fm) (t : Nat) (l : Lv) : Prop := ∀ s, pr l (dn rs s) = dn rs (t + s) f0
theorem cr_l3 {rs : List Rl} {T NN : OT} {f0 : Fm} {x9 : Option OT} {W : WEnds} (ok : okUn rs) (hn : rs.length ≤ 17) : ∀ (l : List Nat) (t : Nat) (L : Lv) (x5 x6 x7 x8 : Option OT) (lv : OT), okLv L → atStep rs f0 t L → lv.val = .dT (lvD L) →
    (∀ x4 x5 x6 x7 x8, W.nx [some (.sh (rulesD rs)), some T, some NN, some (.sh (.int (cnt rs f0 (t + l.length)))), x4, x5, x6, x7, x8, x9]) →
    wLoop (gVar 5) b__law_counted_rows_4 W (l.map fun i => .int (i : Nat)) [some (.sh (rulesD rs)), some T, some NN, some (.sh (.int (cnt rs f0 t))), some lv, x5, x6, x7, x8, x9]
  | [], t, L, x5, x6, x7, x8, lv, _, _, _, h => h (some lv) x5 x6 x7 x8
  | i :: l, t, L, x5, x6, x7, x8, lv, hL, ht, hv, h => by
    simp only [List.map_cons, wLoop]
    simp [ub__law_counted_rows_4, wDef, env0, wEnds, wSeq, wIfS, wTst, wBin, wUse, wName, wC, wUn, wTup, wLst, waCons, waNil, wAsg, gVar, gTupD_mk, gsCons_mk, gsNil_mk, ex2, ex3, wRet, wRetN, wNext, wNever, wDrop, wFor, wiAny, wiRange1, wiRange2, wiEn, wCall, wNot, wAnd, wOr, wAndV, wOrV, wNotV, wIf, wTru, tru_non, tru_bl, tru_int, val_sh, val_lst, val_dT, val_dK, val_ins, intsD, fBl, fSub, fMul, fFdiv, fMod, fPow, fAddA_int, fAddA_form, fMulA_int, fIxA_rule0, fIxA_rule1, gT_rule, atI_c0, atI_c1, atI_c2, atI_c3, atI_c4, fLen, len_str, len_tup, len_slst, len_fz, len_lst, len_form, fInt, fIsA, isA_key, isA_ii, isA_is, isA_ib, isA_ss, wApp, wPar, wAugI, wChain, wYes, wipeE, wSl, woNone, woSome, fTupOf_tup, fTupOf_lst, fTupOf_slst, fTupOf_form, fLstOf, asL_slst, asL_lst, asR_slst, asR_fz, asR_lst, fMax, items_lst, items_fz, items_tup, items_form, items_str, wD0, wSetF, wFld, fields_ins, fields_sins, putFD, wMake, fIsN, fNotN, wDisp, wLc, wDcT, wGet2, isD_dT, isD_sdT, wPut, wForK, hv]
    refine .inr ⟨lvD L |>.map fun p => formD p.1, rfl, ?_⟩
    have e : ((lvD L).map fun p => formD p.1) = L.map fun p => formD p.1 := by simp [lvD]
    rw [e]
    refine cr_l2 ok hn hL L [] _ _ ⟨by simp [keysOf], by simp [keysOf]⟩ (fun p m => m) fun A' y7 y8 hA' hφ => ?_
    have hs : atStep rs f0 (t + 1) A' := fun s => by
      rw [hφ]
      have : pr [] (dn rs s) = 0 := rfl
      rw [this, Int.zero_add]
      have := ht (s + 1)
      rw [show t + 1 + s = t + (s + 1) by omega]
      exact this
    have hv0 : val A' [.inl 0] = dn rs (t + 1) f0 := by
      rw [← pr_del hA'.n]
      exact hs 0
    have e0 : (D.tup [.int 0]) = formD [.inl 0] := rfl
    have z1 : (1 : Nat) ≤ sizeLine := by decide
    have g1 : ∀ r, dGet (.dT (lvD A')) (.sh (formD [.inl 0])) r = (r = lookK (lvD A') [.inl 0]) := fun r => dGet_T rfl rfl
    simp [wDef, env0, wEnds, wSeq, wIfS, wTst, wBin, wUse, wName, wC, wUn, wTup, wLst, waCons, waNil, wAsg, gVar, gTupD_mk, gsCons_mk, gsNil_mk, ex2, ex3, wRet, wRetN, wNext, wNever, wDrop, wFor, wiAny, wiRange1, wiRange2, wiEn, wCall, wNot, wAnd, wOr, wAndV, wOrV, wNotV, wIf, wTru, tru_non, tru_bl, tru_int, val_sh, val_lst, val_dT, val_dK, val_ins, intsD, fBl, fSub, fMul, fFdiv, fMod, fPow, fAddA_int, fAddA_form, fMulA_int, fIxA_rule0, fIxA_rule1, gT_rule, atI_c0, atI_c1, atI_c2, atI_c3, atI_c4, fLen, len_str, len_tup, len_slst, len_fz, len_lst, len_form, fInt, fIsA, isA_key, isA_ii, isA_is, isA_ib, isA_ss, wApp, wPar, wAugI, wChain, wYes, wipeE, wSl, woNone, woSome, fTupOf_tup, fTupOf_lst, fTupOf_slst, fTupOf_form, fLstOf, asL_slst, asL_lst, asR_slst, asR_fz, asR_lst, fMax, items_lst, items_fz, items_tup, items_form, items_str, wD0, wSetF, wFld, fields_ins, fields_sins, putFD, wMake, fIsN, fNotN, wDisp, wLc, wDcT, wGet2, isD_dT, isD_sdT, wPut, wForK, e0, z1, g1, orElse_val, hv0]
    have q := cr_l3 (T := T) (NN := NN) (x9 := x9) (W := W) ok hn l (t + 1) A' (some (.sh (.int (i : Nat)))) (some (.sh (.dT (lvD A')))) y7 y8 (.sh (.dT (lvD A'))) hA' hs rfl (fun x4 x5 x6 x7 x8 => by
      have := h x4 x5 x6 x7 x8
      rw [List.length_cons, show t + (l.length + 1) = t + 1 + l.length by omega] at this
      exact this)
    simpa [cnt] using q
theorem cr_lc {a0 a1 a2 a3 a4 a5 a6 a7 a8 : Option OT} {R : OT → Env' → Prop} : ∀ (f acc : Fm), acc.length + f.length < 1000 →
    R (.lst ((acc ++ f).map keyD)) [a0, a1, a2, a3, a4, a5, a6, a7, a8, none] →
    lcLoop [9] (gVar 9) wYes e__law_counted_rows_1 R (f.map keyD) (acc.map keyD) [a0, a1, a2, a3, a4, a5, a6, a7, a8, none]
  | [], acc, _, h => by simpa [lcLoop] using h
  | k :: f, acc, hl, h => by
    simp only [List.map_cons, lcLoop]
    simp only [List.length_cons] at hl
    have s2 : acc.length < sizeLine := by have := size_big; omega
    have q := cr_lc (a0 := a0) (a1 := a1) (a2 := a2) (a3 := a3) (a4 := a4) (a5 := a5) (a6 := a6) (a7 := a7) (a8 := a8) (R := R) f (acc ++ [k]) (by simp; omega) (by simpa using h)
    simp [ue__law_counted_rows_1, wDef, env0, wEnds, wSeq, wIfS, wTst, wBin, wUse, wName, wC, wUn, wTup, wLst, waCons, waNil, wAsg, gVar, gTupD_mk, gsCons_mk, gsNil_mk, ex2, ex3, wRet, wRetN, wNext, wNever, wDrop, wFor, wiAny, wiRange1, wiRange2, wiEn, wCall, wNot, wAnd, wOr, wAndV, wOrV, wNotV, wIf, wTru, tru_non, tru_bl, tru_int, val_sh, val_lst, val_dT, val_dK, val_ins, intsD, fBl, fSub, fMul, fFdiv, fMod, fPow, fAddA_int, fAddA_form, fMulA_int, fIxA_rule0, fIxA_rule1, gT_rule, atI_c0, atI_c1, atI_c2, atI_c3, atI_c4, fLen, len_str, len_tup, len_slst, len_fz, len_lst, len_form, fInt, fIsA, isA_key, isA_ii, isA_is, isA_ib, isA_ss, wApp, wPar, wAugI, wChain, wYes, wipeE, wSl, woNone, woSome, fTupOf_tup, fTupOf_lst, fTupOf_slst, fTupOf_form, fLstOf, asL_slst, asL_lst, asR_slst, asR_fz, asR_lst, fMax, items_lst, items_fz, items_tup, items_form, items_str, wD0, wSetF, wFld, fields_ins, fields_sins, putFD, wMake, fIsN, fNotN, wDisp, wLc, wDcT, wGet2, isD_dT, isD_sdT, wPut, wForK, s2, List.set]
    simpa using q
theorem signs_txt (cs : List Nat) : signs (txt cs) = (lets cs).map keyD := by simp [signs, txt, lets, keyD]
theorem counted_ok {rs : List Rl} {cs : List Nat} {n : Nat} {P : OT → Prop} (ok : okUn rs) (hn : rs.length ≤ 17) (hs : sf (lets cs)) (hn2 : n < 1000) (h : P (.sh (.int (cnt rs (lets cs) n)))) : φ__law_counted_rows [rulesD rs, .str (txt cs), .int (n : Nat)] P := by
  have b1 : -4611686018427387904 ≤ (n : Int) := by omega
  have b2 : (n : Int) < 4611686018427387904 := by omega
  simp [φ__law_counted_rows, w__law_counted_rows, N__law_counted_rows, wDef, env0, wEnds, wSeq, wIfS, wTst, wBin, wUse, wName, wC, wUn, wTup, wLst, waCons, waNil, wAsg, gVar, gTupD_mk, gsCons_mk, gsNil_mk, ex2, ex3, wRet, wRetN, wNext, wNever, wDrop, wFor, wiAny, wiRange1, wiRange2, wiEn, wCall, wNot, wAnd, wOr, wAndV, wOrV, wNotV, wIf, wTru, tru_non, tru_bl, tru_int, val_sh, val_lst, val_dT, val_dK, val_ins, intsD, fBl, fSub, fMul, fFdiv, fMod, fPow, fAddA_int, fAddA_form, fMulA_int, fIxA_rule0, fIxA_rule1, gT_rule, atI_c0, atI_c1, atI_c2, atI_c3, atI_c4, fLen, len_str, len_tup, len_slst, len_fz, len_lst, len_form, fInt, fIsA, isA_key, isA_ii, isA_is, isA_ib, isA_ss, wApp, wPar, wAugI, wChain, wYes, wipeE, wSl, woNone, woSome, fTupOf_tup, fTupOf_lst, fTupOf_slst, fTupOf_form, fLstOf, asL_slst, asL_lst, asR_slst, asR_fz, asR_lst, fMax, items_lst, items_fz, items_tup, items_form, items_str, wD0, wSetF, wFld, fields_ins, fields_sins, putFD, wMake, fIsN, fNotN, wDisp, wLc, wDcT, wGet2, isD_dT, isD_sdT, wPut, wForK, signs_txt, b1, b2]
  refine cr_lc (acc := []) (lets cs) (by have := hs.2; simp; omega) ?_
  simp [fTupOf_lst, val_sh]
  refine ⟨lets cs, rfl, ?_⟩
  rw [rangeD0]
  have e : (.dT [(lets cs, D.int 1)] : OT) = .dT (lvD [(lets cs, 1)]) := rfl
  rw [e]
  refine ⟨b2, ?_⟩
  refine cr_l3 (f0 := lets cs) ok hn (List.range n) 0 [(lets cs, 1)] _ _ _ _ (.dT (lvD [(lets cs, 1)])) ⟨by simp [keysOf], fun f m => by simp [keysOf] at m; rw [m]; exact hs⟩ (fun s => by simp [pr]) rfl fun x4 x5 x6 x7 x8 => ?_
  simpa [wDef, env0, wEnds, wSeq, wIfS, wTst, wBin, wUse, wName, wC, wUn, wTup, wLst, waCons, waNil, wAsg, gVar, gTupD_mk, gsCons_mk, gsNil_mk, ex2, ex3, wRet, wRetN, wNext, wNever, wDrop, wFor, wiAny, wiRange1, wiRange2, wiEn, wCall, wNot, wAnd, wOr, wAndV, wOrV, wNotV, wIf, wTru, tru_non, tru_bl, tru_int, val_sh, val_lst, val_dT, val_dK, val_ins, intsD, fBl, fSub, fMul, fFdiv, fMod, fPow, fAddA_int, fAddA_form, fMulA_int, fIxA_rule0, fIxA_rule1, gT_rule, atI_c0, atI_c1, atI_c2, atI_c3, atI_c4, fLen, len_str, len_tup, len_slst, len_fz, len_lst, len_form, fInt, fIsA, isA_key, isA_ii, isA_is, isA_ib, isA_ss, wApp, wPar, wAugI, wChain, wYes, wipeE, wSl, woNone, woSome, fTupOf_tup, fTupOf_lst, fTupOf_slst, fTupOf_form, fLstOf, asL_slst, asL_lst, asR_slst, asR_fz, asR_lst, fMax, items_lst, items_fz, items_tup, items_form, items_str, wD0, wSetF, wFld, fields_ins, fields_sins, putFD, wMake, fIsN, fNotN, wDisp, wLc, wDcT, wGet2, isD_dT, isD_sdT, wPut, wForK] using h
end EW

set_option maxHeartbeats 4000000
/-! k70, plain: the program's search for the forms that lead to a text. -/
namespace EW
open PySem PySem.Spec L2 EV
section
variable {α : Type}
def kys (l : List (Fm × α)) : List Fm := l.map (·.1)
theorem look_none (l : List (Fm × α)) (f : Fm) : lookK l f = none ↔ f ∉ kys l := by
  induction l with
  | nil => simp [lookK, kys]
  | cons p l ih =>
    obtain ⟨k, v⟩ := p
    unfold lookK at ih ⊢
    simp only [List.find?_cons, kys, List.map_cons, List.mem_cons]
    by_cases h : k = f
    · simp [h]
    · simp only [decide_eq_false h]
      have : ¬ f = k := fun e => h e.symm
      simp only [this, false_or]
      exact ih
theorem put_new {l : List (Fm × α)} {k : Fm} (v : α) (h : k ∉ kys l) : putG l k v = l ++ [(k, v)] := by
  unfold putG
  rw [if_neg]
  intro z
  rw [List.any_eq_true] at z
  obtain ⟨p, m, e⟩ := z
  exact h (by rw [← of_decide_eq_true e]; exact List.mem_map_of_mem m)
end
structure okFs (rs : List Rl) (fs : List Fm) (bs : List (Fm × D)) : Prop where
  n : fs.Nodup
  s : ∀ f ∈ fs, sf f
  k : kys bs = fs
theorem okFs.len {rs : List Rl} {fs : List Fm} {bs : List (Fm × D)} (h : okFs rs fs bs) : fs.length ≤ 156 := short_len h.n h.s
theorem okFs.blen {rs : List Rl} {fs : List Fm} {bs : List (Fm × D)} (h : okFs rs fs bs) : bs.length ≤ 156 := by
  have := h.len
  rw [← h.k] at this
  simpa [kys] using this
theorem ixN_at {α : Type} {l : List α} {i : Nat} (h : i < l.length) : atI l (i : Int) = some l[i] := by rw [EV.atI_nat]; simp [h]
theorem fo_l1 {rs : List Rl} {G T F0 : OT} {idx : Nat} {W : WEnds} : ∀ (us : List Un) (fs : List Fm) (bs : List (Fm × D)) (x7 x8 x9 : Option OT), okFs rs fs bs → idx < fs.length → (∀ u ∈ us, sf u.2.2) →
    (∀ fs' bs' x7 x8 x9, okFs rs fs' bs' → (∃ ext, fs' = fs ++ ext) → (∀ u ∈ us, u.2.2 ∈ fs') → W.nx [some G, some T, some (.sh (.int 20000)), some F0, some (.lst (fs'.map formD)), some (.dT bs'), some (.sh (.int (idx : Nat))), x7, x8, x9, none]) →
    wLoop (gTupD 3 (gsCons (gVar 7) (gsCons (gVar 8) (gsCons (gVar 9) gsNil)))) b_found_origins_2 W (us.map unD) [some G, some T, some (.sh (.int 20000)), some F0, some (.lst (fs.map formD)), some (.dT bs), some (.sh (.int (idx : Nat))), x7, x8, x9, none]
  | [], fs, bs, x7, x8, x9, ok, _, _, h => h fs bs x7 x8 x9 ok ⟨[], by simp⟩ (by simp)
  | u :: us, fs, bs, x7, x8, x9, ok, hi, hu, h => by
    obtain ⟨n, p, g⟩ := u
    simp only [List.map_cons, wLoop]
    have hl := ok.len
    have hbl := ok.blen
    have s1 : fs.length ≤ sizeLine := by have := size_big; omega
    have s2 : fs.length < sizeLine := by have := size_big; omega
    have s3 : bs.length < sizeLine := by have := size_big; omega
    have z3 : (3 : Nat) ≤ sizeLine := by decide
    have lt : ¬ (20000 : Int) ≤ fs.length := by omega
    have lt2 : (fs.length : Int) < 20000 := by omega
    have ki : ∀ P : OT → Prop, fInA true (.sh (formD g)) (.dT bs) P = P (.sh (.bl (!(lookK bs g).isSome))) := fun P => by
      have := fInA_T (neg := true) (t := .dT bs) (kvs := bs) (f := g) (P := P) rfl rfl
      simpa using this
    have at1 : ∀ P : OT → Prop, fIxA (.lst (fs.map formD)) (.sh (.int (idx : Nat))) P = P (.sh (formD fs[idx])) := fun P => by
      rw [fIxA_lst, atI_map, ixN_at hi]; simp
    simp [ub_found_origins_2, wDef, env0, wEnds, wSeq, wIfS, wTst, wBin, wUse, wName, wC, wUn, wTup, wLst, waCons, waNil, wAsg, gVar, gTupD_mk, gsCons_mk, gsNil_mk, ex2, ex3, wRet, wRetN, wNext, wNever, wDrop, wFor, wiAny, wiRange1, wiRange2, wiEn, wCall, wNot, wAnd, wOr, wAndV, wOrV, wNotV, wIf, wTru, tru_non, tru_bl, tru_int, val_sh, val_lst, val_dT, val_dK, val_ins, intsD, fBl, fSub, fMul, fFdiv, fMod, fPow, fAddA_int, fAddA_form, fMulA_int, fIxA_rule0, fIxA_rule1, gT_rule, atI_c0, atI_c1, atI_c2, atI_c3, atI_c4, fLen, len_str, len_tup, len_slst, len_fz, len_lst, len_form, fInt, fIsA, isA_key, isA_ii, isA_is, isA_ib, isA_ss, wApp, wPar, wAugI, wChain, wYes, wipeE, wSl, woNone, woSome, fTupOf_tup, fTupOf_lst, fTupOf_slst, fTupOf_form, fLstOf, asL_slst, asL_lst, asR_slst, asR_fz, asR_lst, fMax, items_lst, items_fz, items_tup, items_form, items_str, wD0, wSetF, wFld, fields_ins, fields_sins, putFD, wMake, fIsN, fNotN, wDisp, wLc, wDcT, wGet2, isD_dT, isD_sdT, wPut, wForK, unD, ki]
    by_cases c : g ∈ fs
    · have hk : (lookK bs g).isSome = true := by
        cases e : lookK bs g with
        | some _ => rfl
        | none => exact ((look_none bs g).mp e (by rw [ok.k]; exact c)).elim
      simp [hk]
      refine .inl ?_
      exact fo_l1 us fs bs _ _ _ ok hi (fun u' m => hu u' (by simp [m])) fun fs' bs' y7 y8 y9 ok' ⟨ext, he⟩ hm => h fs' bs' y7 y8 y9 ok' ⟨ext, he⟩ fun u' m' => by
        rcases List.mem_cons.mp m' with e | m'
        · subst e; rw [he]; exact List.mem_append_left _ c
        · exact hm u' m'
    · have hk0 : lookK bs g = none := (look_none bs g).mpr (by rw [ok.k]; exact c)
      have hk : (lookK bs g).isSome = false := by rw [hk0]; rfl
      have ok2 : ∀ d : D, okFs rs (fs ++ [g]) (putG bs g d) := fun d => by
        refine ⟨?_, fun f m => ?_, ?_⟩
        · rw [List.nodup_append]
          exact ⟨ok.n, by simp, fun a ha b hb => by simp at hb; subst hb; exact fun e => c (e ▸ ha)⟩
        · rcases List.mem_append.mp m with m | m
          · exact ok.s f m
          · simp at m; rw [m]; exact hu _ (List.mem_cons_self ..)
        · rw [put_new d (by rw [ok.k]; exact c)]
          have := ok.k
          simp [kys] at this ⊢
          exact this
      simp [hk, hk0, s1, s2, fGeA_int, lt, lt2, at1, z3]
      refine ⟨_, putD_T s3, ?_⟩
      have q := fo_l1 (rs := rs) (G := G) (T := T) (F0 := F0) (idx := idx) (W := W) us (fs ++ [g]) _ (some (.sh (.int (n : Nat)))) (some (.sh (.int (p : Nat)))) (some (.sh (formD g))) (ok2 (.tup [formD fs[idx], .int n, .int p])) (by simp; omega) (fun u' m => hu u' (by simp [m])) (fun fs' bs' y7 y8 y9 ok' ⟨ext, he⟩ hm => h fs' bs' y7 y8 y9 ok' ⟨g :: ext, by rw [he]; simp⟩ fun u' m' => by
        rcases List.mem_cons.mp m' with e | m'
        · subst e; rw [he]; simp
        · exact hm u' m')
      simpa [val_sh] using q
theorem fo_lc {a0 a1 a2 a3 a4 a5 a6 a7 a8 a9 : Option OT} {R : OT → Env' → Prop} : ∀ (f acc : Fm), acc.length + f.length < 1000 →
    R (.lst ((acc ++ f).map keyD)) [a0, a1, a2, a3, a4, a5, a6, a7, a8, a9, none] →
    lcLoop [10] (gVar 10) wYes e_found_origins_1 R (f.map keyD) (acc.map keyD) [a0, a1, a2, a3, a4, a5, a6, a7, a8, a9, none]
  | [], acc, _, h => by simpa [lcLoop] using h
  | k :: f, acc, hl, h => by
    simp only [List.map_cons, lcLoop]
    simp only [List.length_cons] at hl
    have s2 : acc.length < sizeLine := by have := size_big; omega
    have q := fo_lc (a0 := a0) (a1 := a1) (a2 := a2) (a3 := a3) (a4 := a4) (a5 := a5) (a6 := a6) (a7 := a7) (a8 := a8) (a9 := a9) (R := R) f (acc ++ [k]) (by simp; omega) (by simpa using h)
    simp [ue_found_origins_1, wDef, env0, wEnds, wSeq, wIfS, wTst, wBin, wUse, wName, wC, wUn, wTup, wLst, waCons, waNil, wAsg, gVar, gTupD_mk, gsCons_mk, gsNil_mk, ex2, ex3, wRet, wRetN, wNext, wNever, wDrop, wFor, wiAny, wiRange1, wiRange2, wiEn, wCall, wNot, wAnd, wOr, wAndV, wOrV, wNotV, wIf, wTru, tru_non, tru_bl, tru_int, val_sh, val_lst, val_dT, val_dK, val_ins, intsD, fBl, fSub, fMul, fFdiv, fMod, fPow, fAddA_int, fAddA_form, fMulA_int, fIxA_rule0, fIxA_rule1, gT_rule, atI_c0, atI_c1, atI_c2, atI_c3, atI_c4, fLen, len_str, len_tup, len_slst, len_fz, len_lst, len_form, fInt, fIsA, isA_key, isA_ii, isA_is, isA_ib, isA_ss, wApp, wPar, wAugI, wChain, wYes, wipeE, wSl, woNone, woSome, fTupOf_tup, fTupOf_lst, fTupOf_slst, fTupOf_form, fLstOf, asL_slst, asL_lst, asR_slst, asR_fz, asR_lst, fMax, items_lst, items_fz, items_tup, items_form, items_str, wD0, wSetF, wFld, fields_ins, fields_sins, putFD, wMake, fIsN, fNotN, wDisp, wLc, wDcT, wGet2, isD_dT, isD_sdT, wPut, wForK, s2, List.set]
    simpa using q
/-- closed under undoings -/
def closed (rs : List Rl) (fs : List Fm) (i : Nat) : Prop := ∀ j (h : j < fs.length), j < i → ∀ g ∈ bf rs fs[j], g ∈ fs
theorem origins_ok {al : Str} {v : Int} {rs : List Rl} {cs : List Nat} {P : OT → Prop} (ok : okGr al v rs) (hv : v ≤ 3) (hs : sf (lets cs)) (hne : 0 < cs.length) (hcs : ∀ c ∈ cs, c ∈ al.cps.toList)
    (h : ∀ (fs : List Fm) (bs : List (Fm × D)), fs.Nodup → (∀ f ∈ fs, sf f) → (∀ f ∈ fs, ∀ g ∈ bf rs f, g ∈ fs) → fs[0]? = some (lets cs) → P (.sh (.tup [.lst (fs.map formD), .dT bs]))) :
    φ_found_origins [grD al v rs, .str (txt cs), .int 20000] P := by
  have hun := okUn_gr ok hv
  have tk : okK (.inr (txt cs)) = true := by
    show PyData.strOk (txt cs) = true
    unfold PyData.strOk
    simp only [txt, List.all_toArray, List.all_eq_true, decide_eq_true_eq]
    intro c m
    have := hcs c m
    have : c = 97 ∨ c = 98 := by
      rcases ok.hal with rfl | rfl
      · simpa [abS] using this
      · have : c = 97 := by simpa [aS] using this
        exact .inl this
    rcases this with rfl | rfl <;> decide
  have ek : okK (.inr ("" : Str)) = true := by decide +kernel
  have tne : ¬ txt cs = ("" : Str) := fun e => by
    have : (txt cs).cps.size = ("" : Str).cps.size := by rw [e]
    have e2 : ("" : Str).cps.size = 0 := rfl
    rw [e2] at this
    simp [txt] at this
    rw [this] at hne
    simp at hne
  have z1 : (1 : Nat) ≤ sizeLine := by decide
  have z2 : (2 : Nat) ≤ sizeLine := by decide
  simp [φ_found_origins, w_found_origins, N_found_origins, wDef, env0, wEnds, wSeq, wIfS, wTst, wBin, wUse, wName, wC, wUn, wTup, wLst, waCons, waNil, wAsg, gVar, gTupD_mk, gsCons_mk, gsNil_mk, ex2, ex3, wRet, wRetN, wNext, wNever, wDrop, wFor, wiAny, wiRange1, wiRange2, wiEn, wCall, wNot, wAnd, wOr, wAndV, wOrV, wNotV, wIf, wTru, tru_non, tru_bl, tru_int, val_sh, val_lst, val_dT, val_dK, val_ins, intsD, fBl, fSub, fMul, fFdiv, fMod, fPow, fAddA_int, fAddA_form, fMulA_int, fIxA_rule0, fIxA_rule1, gT_rule, atI_c0, atI_c1, atI_c2, atI_c3, atI_c4, fLen, len_str, len_tup, len_slst, len_fz, len_lst, len_form, fInt, fIsA, isA_key, isA_ii, isA_is, isA_ib, isA_ss, wApp, wPar, wAugI, wChain, wYes, wipeE, wSl, woNone, woSome, fTupOf_tup, fTupOf_lst, fTupOf_slst, fTupOf_form, fLstOf, asL_slst, asL_lst, asR_slst, asR_fz, asR_lst, fMax, items_lst, items_fz, items_tup, items_form, items_str, wD0, wSetF, wFld, fields_ins, fields_sins, putFD, wMake, fIsN, fNotN, wDisp, wLc, wDcT, wGet2, isD_dT, isD_sdT, wPut, wForK, signs_txt]
  refine fo_lc (acc := []) (lets cs) (by have := hs.2; simp; omega) ?_
  simp [fTupOf_lst, val_sh, z1]
  refine ⟨lets cs, rfl, ?_⟩
  unfold wWhile
  refine ⟨fun m Γ => ∃ (fs : List Fm) (bs : List (Fm × D)) (idx : Nat) (x7 x8 x9 : Option OT), Γ = [some (.sh (grD al v rs)), some (.sh (.str (txt cs))), some (.sh (.int 20000)), some (.sh (formD (lets cs))), some (.lst (fs.map formD)), some (.dT bs), some (.sh (.int (idx : Nat))), x7, x8, x9, none] ∧ okFs rs fs bs ∧ idx ≤ fs.length ∧ closed rs fs idx ∧ fs[0]? = some (lets cs) ∧ m = 1000 - idx, ⟨1000, [lets cs], [(lets cs, .non)], 0, none, none, none, rfl, ⟨by simp, fun f m => by simp at m; rw [m]; exact hs, rfl⟩, by simp, fun j h1 h2 => by omega, rfl, rfl⟩, ?_⟩
  rintro m Γ ⟨fs, bs, idx, x7, x8, x9, rfl, okf, hi, hc, h0, rfl⟩
  have hl := okf.len
  have s1 : fs.length ≤ sizeLine := by have := size_big; omega
  by_cases c : idx < fs.length
  · have c' : (idx : Int) < fs.length := by omega
    have hm : fs[idx] ∈ fs := List.getElem_mem c
    have at1 : ∀ P : OT → Prop, fIxA (.lst (fs.map formD)) (.sh (.int (idx : Nat))) P = P (.sh (formD fs[idx])) := fun P => by
      rw [fIxA_lst, atI_map, ixN_at c]; simp
    simp [ut_found_origins_4, wDef, env0, wEnds, wSeq, wIfS, wTst, wBin, wUse, wName, wC, wUn, wTup, wLst, waCons, waNil, wAsg, gVar, gTupD_mk, gsCons_mk, gsNil_mk, ex2, ex3, wRet, wRetN, wNext, wNever, wDrop, wFor, wiAny, wiRange1, wiRange2, wiEn, wCall, wNot, wAnd, wOr, wAndV, wOrV, wNotV, wIf, wTru, tru_non, tru_bl, tru_int, val_sh, val_lst, val_dT, val_dK, val_ins, intsD, fBl, fSub, fMul, fFdiv, fMod, fPow, fAddA_int, fAddA_form, fMulA_int, fIxA_rule0, fIxA_rule1, gT_rule, atI_c0, atI_c1, atI_c2, atI_c3, atI_c4, fLen, len_str, len_tup, len_slst, len_fz, len_lst, len_form, fInt, fIsA, isA_key, isA_ii, isA_is, isA_ib, isA_ss, wApp, wPar, wAugI, wChain, wYes, wipeE, wSl, woNone, woSome, fTupOf_tup, fTupOf_lst, fTupOf_slst, fTupOf_form, fLstOf, asL_slst, asL_lst, asR_slst, asR_fz, asR_lst, fMax, items_lst, items_fz, items_tup, items_form, items_str, wD0, wSetF, wFld, fields_ins, fields_sins, putFD, wMake, fIsN, fNotN, wDisp, wLc, wDcT, wGet2, isD_dT, isD_sdT, wPut, wForK, s1, c, c', fNe_str tk ek, tne]
    simp [ub_found_origins_3, wDef, env0, wEnds, wSeq, wIfS, wTst, wBin, wUse, wName, wC, wUn, wTup, wLst, waCons, waNil, wAsg, gVar, gTupD_mk, gsCons_mk, gsNil_mk, ex2, ex3, wRet, wRetN, wNext, wNever, wDrop, wFor, wiAny, wiRange1, wiRange2, wiEn, wCall, wNot, wAnd, wOr, wAndV, wOrV, wNotV, wIf, wTru, tru_non, tru_bl, tru_int, val_sh, val_lst, val_dT, val_dK, val_ins, intsD, fBl, fSub, fMul, fFdiv, fMod, fPow, fAddA_int, fAddA_form, fMulA_int, fIxA_rule0, fIxA_rule1, gT_rule, atI_c0, atI_c1, atI_c2, atI_c3, atI_c4, fLen, len_str, len_tup, len_slst, len_fz, len_lst, len_form, fInt, fIsA, isA_key, isA_ii, isA_is, isA_ib, isA_ss, wApp, wPar, wAugI, wChain, wYes, wipeE, wSl, woNone, woSome, fTupOf_tup, fTupOf_lst, fTupOf_slst, fTupOf_form, fLstOf, asL_slst, asL_lst, asR_slst, asR_fz, asR_lst, fMax, items_lst, items_fz, items_tup, items_form, items_str, wD0, wSetF, wFld, fields_ins, fields_sins, putFD, wMake, fIsN, fNotN, wDisp, wLc, wDcT, wGet2, isD_dT, isD_sdT, wPut, wForK, at1]
    refine undoings_ok ok (sf_ok (okf.s _ hm)) (by have := (okf.s _ hm).2; omega) ?_
    simp [val_lst, items_lst]
    refine fo_l1 _ fs bs _ _ _ okf c (bf_short (okf.s _ hm) 0 hun) fun fs' bs' y7 y8 y9 ok' ⟨ext, he⟩ hmem => ?_
    refine ⟨(idx : Int), rfl, 1, rfl, by simp, ?_⟩
    refine ⟨1000 - (idx + 1), by omega, fs', bs', idx + 1, ⟨y7, y8, y9, rfl⟩, ok', by rw [he]; simp; omega, fun j h1 h2 g hg => ?_, by rw [he]; rw [List.getElem?_append_left (by omega)]; exact h0, rfl⟩
    have hj : j < fs.length := by omega
    have ej : fs'[j] = fs[j] := by
      have : fs'[j]? = fs[j]? := by rw [he, List.getElem?_append_left hj]
      rw [List.getElem?_eq_getElem h1, List.getElem?_eq_getElem hj] at this
      exact Option.some.inj this
    rw [ej] at hg
    by_cases e : j < idx
    · have := hc j hj e g hg
      rw [he]; exact List.mem_append_left _ this
    · have e2 : j = idx := by omega
      subst e2
      unfold bf at hg
      obtain ⟨u, mu, rfl⟩ := List.mem_map.mp hg
      exact hmem u mu
  · have e : idx = fs.length := by omega
    subst e
    simp [ut_found_origins_4, wDef, env0, wEnds, wSeq, wIfS, wTst, wBin, wUse, wName, wC, wUn, wTup, wLst, waCons, waNil, wAsg, gVar, gTupD_mk, gsCons_mk, gsNil_mk, ex2, ex3, wRet, wRetN, wNext, wNever, wDrop, wFor, wiAny, wiRange1, wiRange2, wiEn, wCall, wNot, wAnd, wOr, wAndV, wOrV, wNotV, wIf, wTru, tru_non, tru_bl, tru_int, val_sh, val_lst, val_dT, val_dK, val_ins, intsD, fBl, fSub, fMul, fFdiv, fMod, fPow, fAddA_int, fAddA_form, fMulA_int, fIxA_rule0, fIxA_rule1, gT_rule, atI_c0, atI_c1, atI_c2, atI_c3, atI_c4, fLen, len_str, len_tup, len_slst, len_fz, len_lst, len_form, fInt, fIsA, isA_key, isA_ii, isA_is, isA_ib, isA_ss, wApp, wPar, wAugI, wChain, wYes, wipeE, wSl, woNone, woSome, fTupOf_tup, fTupOf_lst, fTupOf_slst, fTupOf_form, fLstOf, asL_slst, asL_lst, asR_slst, asR_fz, asR_lst, fMax, items_lst, items_fz, items_tup, items_form, items_str, wD0, wSetF, wFld, fields_ins, fields_sins, putFD, wMake, fIsN, fNotN, wDisp, wLc, wDcT, wGet2, isD_dT, isD_sdT, wPut, wForK, s1, z2]
    refine h fs bs okf.n okf.s (fun f m g hg => ?_) h0
    obtain ⟨j, hj, rfl⟩ := List.mem_iff_getElem.mp m
    exact hc j hj hj g hg
end EW

set_option maxHeartbeats 4000000
/-! k70, plain: the program's count. -/
namespace EW
open PySem PySem.Spec L2 EV
def zeros (fs : List Fm) : Lv := fs.map fun f => (f, 0)
theorem keys_zeros (fs : List Fm) : keysOf (zeros fs) = fs := by
  unfold keysOf zeros
  rw [List.map_map]
  exact List.map_id fs
theorem pr_zeros (fs : List Fm) (φ : Fm → Int) : pr (zeros fs) φ = 0 := by
  unfold pr zeros
  rw [List.map_map]
  induction fs with
  | nil => rfl
  | cons f fs ih => simp only [List.map_cons, List.sum_cons, ih]; simp
theorem kys_lvD (l : Lv) : kys (lvD l) = keysOf l := by
  unfold kys lvD keysOf
  rw [List.map_map]
  rfl
theorem cd_dc {a0 a1 a2 a3 a4 a5 a6 a7 a8 a9 a11 a12 a13 : Option OT} {R : OT → Env' → Prop} {we : WE} (hwe : ∀ Γ R, we Γ R = R (.sh (.int 0)) Γ) : ∀ (fs acc : List Fm), (acc ++ fs).Nodup → acc.length + fs.length < 1000 →
    R (.dT (lvD (zeros (acc ++ fs)))) [a0, a1, a2, a3, a4, a5, a6, a7, a8, a9, none, a11, a12, a13] →
    dcLoop [10] (gVar 10) wYes (wUse 10) we R (fs.map formD) (lvD (zeros acc)) [a0, a1, a2, a3, a4, a5, a6, a7, a8, a9, none, a11, a12, a13]
  | [], acc, _, _, h => by simpa [dcLoop] using h
  | f :: fs, acc, hn, hl, h => by
    simp only [List.map_cons, dcLoop]
    simp only [List.length_cons] at hl
    have hk : f ∉ kys (lvD (zeros acc)) := by
      rw [kys_lvD, keys_zeros]
      rw [List.nodup_append] at hn
      exact fun m => hn.2.2 f m f (by simp) rfl
    have e : putG (lvD (zeros acc)) f (.int 0) = lvD (zeros (acc ++ [f])) := by
      rw [put_new _ hk]
      simp [lvD, zeros]
    have hs : (lvD (zeros acc)).length < sizeLine := by
      have := size_big
      simp [lvD, zeros]
      omega
    have q := cd_dc (a0 := a0) (a1 := a1) (a2 := a2) (a3 := a3) (a4 := a4) (a5 := a5) (a6 := a6) (a7 := a7) (a8 := a8) (a9 := a9) (a11 := a11) (a12 := a12) (a13 := a13) (R := R) hwe fs (acc ++ [f]) (by simpa using hn) (by simp; omega) (by simpa using h)
    simp [wYes, wUse, gVar, List.set, wipeE, hwe, val_sh]
    exact ⟨f, rfl, hs, by rw [e]; exact q⟩
def bd (rs : List Rl) (fs : List Fm) : List (Fm × D) := fs.map fun f => (f, .lst ((bf rs f).map formD))
theorem cd_lc {a0 a1 a2 a3 a4 a5 a6 a7 a8 a9 a10 : Option OT} {R : OT → Env' → Prop} : ∀ (us : List Un) (acc : List Fm), acc.length + us.length < 1000 →
    R (.lst ((acc ++ us.map (·.2.2)).map formD)) [a0, a1, a2, a3, a4, a5, a6, a7, a8, a9, a10, none, none, none] →
    lcLoop [12, 13, 11] (gTupD 3 (gsCons (gVar 12) (gsCons (gVar 13) (gsCons (gVar 11) gsNil)))) wYes e_count_derivations_1 R (us.map unD) (acc.map formD) [a0, a1, a2, a3, a4, a5, a6, a7, a8, a9, a10, none, none, none]
  | [], acc, _, h => by simpa [lcLoop] using h
  | u :: us, acc, hl, h => by
    simp only [List.map_cons, lcLoop]
    simp only [List.length_cons] at hl
    have s2 : acc.length < sizeLine := by have := size_big; omega
    have q := cd_lc (a0 := a0) (a1 := a1) (a2 := a2) (a3 := a3) (a4 := a4) (a5 := a5) (a6 := a6) (a7 := a7) (a8 := a8) (a9 := a9) (a10 := a10) (R := R) us (acc ++ [u.2.2]) (by simp; omega) (by simpa using h)
    simp [ue_count_derivations_1, wDef, env0, wEnds, wSeq, wIfS, wTst, wBin, wUse, wName, wC, wUn, wTup, wLst, waCons, waNil, wAsg, gVar, gTupD_mk, gsCons_mk, gsNil_mk, ex2, ex3, wRet, wRetN, wNext, wNever, wDrop, wFor, wiAny, wiRange1, wiRange2, wiEn, wCall, wNot, wAnd, wOr, wAndV, wOrV, wNotV, wIf, wTru, tru_non, tru_bl, tru_int, val_sh, val_lst, val_dT, val_dK, val_ins, intsD, fBl, fSub, fMul, fFdiv, fMod, fPow, fAddA_int, fAddA_form, fMulA_int, fIxA_rule0, fIxA_rule1, gT_rule, atI_c0, atI_c1, atI_c2, atI_c3, atI_c4, fLen, len_str, len_tup, len_slst, len_fz, len_lst, len_form, fInt, fIsA, isA_key, isA_ii, isA_is, isA_ib, isA_ss, wApp, wPar, wAugI, wChain, wYes, wipeE, wSl, woNone, woSome, fTupOf_tup, fTupOf_lst, fTupOf_slst, fTupOf_form, fLstOf, asL_slst, asL_lst, asR_slst, asR_fz, asR_lst, fMax, items_lst, items_fz, items_tup, items_form, items_str, wD0, wSetF, wFld, fields_ins, fields_sins, putFD, wMake, fIsN, fNotN, wDisp, wLc, wDcT, wGet2, isD_dT, isD_sdT, wPut, wForK, unD, s2, List.set]
    simpa using q
theorem befs_len (f : Fm) : ∀ (rs : List Rl) (n : Nat), (befs n rs f).length ≤ rs.length * (f.length + 1)
  | [], n => by simp [befs]
  | r :: rs, n => by
    have h1 := bsr_len n r f
    have h2 := befs_len f rs (n + 1)
    simp only [befs, List.length_append, List.length_cons, Nat.add_mul, Nat.one_mul]
    omega
theorem cd_dcB {al : Str} {v : Int} {rs : List Rl} (ok : okGr al v rs) {a1 a2 a3 a4 a5 a6 a7 a8 a9 : Option OT} {R : OT → Env' → Prop} : ∀ (fs acc : List Fm), (acc ++ fs).Nodup → (∀ f ∈ fs, sf f) → acc.length + fs.length < 1000 →
    R (.dT (bd rs (acc ++ fs))) [some (.sh (grD al v rs)), a1, a2, a3, a4, a5, a6, a7, a8, a9, none, none, none, none] →
    dcLoop [10] (gVar 10) wYes (wUse 10) e_count_derivations_2 R (fs.map formD) (bd rs acc) [some (.sh (grD al v rs)), a1, a2, a3, a4, a5, a6, a7, a8, a9, none, none, none, none]
  | [], acc, _, _, _, h => by simpa [dcLoop] using h
  | f :: fs, acc, hn, hs, hl, h => by
    simp only [List.map_cons, dcLoop]
    simp only [List.length_cons] at hl
    have hsf := hs f (by simp)
    have hk : f ∉ kys (bd rs acc) := by
      have : kys (bd rs acc) = acc := by
        unfold kys bd
        rw [List.map_map]
        exact List.map_id acc
      rw [this]
      rw [List.nodup_append] at hn
      exact fun m => hn.2.2 f m f (by simp) rfl
    have e : putG (bd rs acc) f (.lst ((bf rs f).map formD)) = bd rs (acc ++ [f]) := by
      rw [put_new _ hk]
      simp [bd]
    have hsz : (bd rs acc).length < sizeLine := by
      have := size_big
      simp [bd]
      omega
    have q := cd_dcB ok (a1 := a1) (a2 := a2) (a3 := a3) (a4 := a4) (a5 := a5) (a6 := a6) (a7 := a7) (a8 := a8) (a9 := a9) (R := R) fs (acc ++ [f]) (by simpa using hn) (fun g m => hs g (by simp [m])) (by simp; omega) (by simpa using h)
    have bl := befs_len f rs 0
    have fl := hsf.2
    have rl := ok.n
    have hb : rs.length * (f.length + 1) ≤ 16 * 4 := Nat.mul_le_mul rl (by omega)
    simp [gVar, wUse, wYes, List.set, ue_count_derivations_2, wLc, wiAny, wCall, waCons, waNil, wName, val_sh]
    refine undoings_ok ok (sf_ok hsf) (by omega) ?_
    simp [val_lst, items_lst, wipeE, List.set]
    refine cd_lc (acc := []) (befs 0 rs f) (by simp; omega) ?_
    refine ⟨f, rfl, hsz, ?_⟩
    simp [val_lst, wipeE, List.set]
    have e2 : putG (bd rs acc) f (D.lst (List.map (formD ∘ fun x => x.2.2) (befs 0 rs f))) = bd rs (acc ++ [f]) := by
      rw [← e]
      simp [bf]
    rw [e2]
    exact q
theorem cd_l1 {X0 X1 X2 X3 X4 X5 wt X7 X8 : Option OT} {wo : OT} {fs : List Fm} {L : Lv} {f : Fm} {c : Int} {x12 x13 : Option OT} {W : WEnds} (hw1 : wo.asT = some (lvD L)) (hw2 : wo.asK = none) (hc : lookK L f = some c) : ∀ (gs : List Fm) (A : Lv) (x11 : Option OT), keysOf A = fs → fs.Nodup → fs.length ≤ 156 → (∀ g ∈ gs, g ∈ fs) →
    (∀ A' x11, keysOf A' = fs → (∀ φ, pr A' φ = pr A φ + c * ((gs.map φ).sum)) → W.nx [X0, X1, X2, X3, X4, X5, some wo, X7, X8, some (.dT (lvD A')), some (.sh (formD f)), x11, x12, x13]) →
    wLoop (gVar 11) b_count_derivations_5 W (gs.map formD) [X0, X1, X2, X3, X4, X5, some wo, X7, X8, some (.dT (lvD A)), some (.sh (formD f)), x11, x12, x13]
  | [], A, x11, hA, _, _, _, h => h A x11 hA fun φ => by simp
  | g :: gs, A, x11, hA, hn, hl, hg, h => by
    simp only [List.map_cons, wLoop]
    have hin : g ∈ keysOf A := by rw [hA]; exact hg g (by simp)
    have hsz : (lvD A).length < sizeLine := by
      have e : A.length = fs.length := by rw [← hA, keysOf_len]
      have := size_big
      rw [lvD_len]; omega
    obtain ⟨b, hb⟩ : ∃ b, lookK A g = some b := by
      cases e : lookK A g with
      | none => exact ((lookK_none_iff A g).mp e hin).elim
      | some b => exact ⟨b, rfl⟩
    have hv : val A g = b := by unfold val; rw [hb]; rfl
    have g1 : ∀ P : OT → Prop, fIxA (.dT (lvD A)) (.sh (formD g)) P = P (.sh (.int b)) := fun P => by
      rw [fIxA_T (kvs := lvD A) rfl rfl, lvD_look, hb]
      simp
    have g2 : ∀ P : OT → Prop, fIxA wo (.sh (formD f)) P = P (.sh (.int c)) := fun P => by
      rw [fIxA_T hw1 hw2, lvD_look, hc]
      simp
    simp [ub_count_derivations_5, wDef, env0, wEnds, wSeq, wIfS, wTst, wBin, wUse, wName, wC, wUn, wTup, wLst, waCons, waNil, wAsg, gVar, gTupD_mk, gsCons_mk, gsNil_mk, ex2, ex3, wRet, wRetN, wNext, wNever, wDrop, wFor, wiAny, wiRange1, wiRange2, wiEn, wCall, wNot, wAnd, wOr, wAndV, wOrV, wNotV, wIf, wTru, tru_non, tru_bl, tru_int, val_sh, val_lst, val_dT, val_dK, val_ins, intsD, fBl, fSub, fMul, fFdiv, fMod, fPow, fAddA_int, fAddA_form, fMulA_int, fIxA_rule0, fIxA_rule1, gT_rule, atI_c0, atI_c1, atI_c2, atI_c3, atI_c4, fLen, len_str, len_tup, len_slst, len_fz, len_lst, len_form, fInt, fIsA, isA_key, isA_ii, isA_is, isA_ib, isA_ss, wApp, wPar, wAugI, wChain, wYes, wipeE, wSl, woNone, woSome, fTupOf_tup, fTupOf_lst, fTupOf_slst, fTupOf_form, fLstOf, asL_slst, asL_lst, asR_slst, asR_fz, asR_lst, fMax, items_lst, items_fz, items_tup, items_form, items_str, wD0, wSetF, wFld, fields_ins, fields_sins, putFD, wMake, fIsN, fNotN, wDisp, wLc, wDcT, wGet2, isD_dT, isD_sdT, wPut, wForK, g1, g2]
    refine ⟨_, putD_T hsz, ?_⟩
    rw [lvD_put]
    have hnA : (keysOf A).Nodup := by rw [hA]; exact hn
    refine cd_l1 (wt := wt) hw1 hw2 hc gs _ _ (by rw [keys_in _ hin]; exact hA) hn hl (fun g' m => hg g' (by simp [m])) fun A' y11 hA' hφ => ?_
    refine h A' y11 hA' fun φ => ?_
    have hp := pr_put hnA g c φ
    rw [hv] at hp
    rw [hφ φ, hp]
    simp only [List.map_cons, List.sum_cons, Int.mul_add]
    omega
end EW

set_option maxHeartbeats 4000000
/-! k70, plain: the program's count, the whole. -/
namespace EW
open PySem PySem.Spec L2 EV
theorem look_bd {rs : List Rl} {f : Fm} : ∀ {fs : List Fm}, f ∈ fs → lookK (bd rs fs) f = some (.lst ((bf rs f).map formD))
  | [], h => by simp at h
  | g :: fs, h => by
    unfold lookK bd
    simp only [List.map_cons, List.find?_cons]
    by_cases e : g = f
    · subst e; simp
    · simp only [decide_eq_false e]
      exact look_bd (fs := fs) ((List.mem_cons.mp h).resolve_left fun z => e z.symm)
theorem cd_l2 {rs : List Rl} {X0 X1 X2 X3 X4 X7 X8 : Option OT} {wo : OT} {fs : List Fm} {L : Lv} {x12 x13 : Option OT} {W : WEnds} (hw1 : wo.asT = some (lvD L)) (hw2 : wo.asK = none) (hL : keysOf L = fs) (hn : fs.Nodup) (hl : fs.length ≤ 156) (hcl : ∀ f ∈ fs, ∀ g ∈ bf rs f, g ∈ fs) : ∀ (M : Lv) (A : Lv) (x10 x11 : Option OT), keysOf A = fs → (∀ p ∈ M, p ∈ L) →
    (∀ A' x10 x11, keysOf A' = fs → (∀ φ, pr A' φ = pr A φ + pr M (up rs φ)) → W.nx [X0, X1, X2, X3, X4, some (.dT (bd rs fs)), some wo, X7, X8, some (.dT (lvD A')), x10, x11, x12, x13]) →
    wLoop (gVar 10) b_count_derivations_6 W ((keysOf M).map formD) [X0, X1, X2, X3, X4, some (.dT (bd rs fs)), some wo, X7, X8, some (.dT (lvD A)), x10, x11, x12, x13]
  | [], A, x10, x11, hA, _, h => h A x10 x11 hA fun φ => by simp [pr]
  | (f, c) :: M, A, x10, x11, hA, hM, h => by
    change wLoop _ _ _ (formD f :: (keysOf M).map formD) _
    simp only [wLoop]
    have hnL : (keysOf L).Nodup := by rw [hL]; exact hn
    have hc := look_mem hnL (hM (f, c) (by simp))
    have hf : f ∈ fs := by rw [← hL]; exact List.mem_map_of_mem (f := (·.1)) (hM (f, c) (by simp))
    have at1 : ∀ P : OT → Prop, fIxA (.dT (bd rs fs)) (.sh (formD f)) P = P (.sh (.lst ((bf rs f).map formD))) := fun P => by
      rw [fIxA_T (kvs := bd rs fs) rfl rfl, look_bd hf]
      simp
    simp [ub_count_derivations_6, wDef, env0, wEnds, wSeq, wIfS, wTst, wBin, wUse, wName, wC, wUn, wTup, wLst, waCons, waNil, wAsg, gVar, gTupD_mk, gsCons_mk, gsNil_mk, ex2, ex3, wRet, wRetN, wNext, wNever, wDrop, wFor, wiAny, wiRange1, wiRange2, wiEn, wCall, wNot, wAnd, wOr, wAndV, wOrV, wNotV, wIf, wTru, tru_non, tru_bl, tru_int, val_sh, val_lst, val_dT, val_dK, val_ins, intsD, fBl, fSub, fMul, fFdiv, fMod, fPow, fAddA_int, fAddA_form, fMulA_int, fIxA_rule0, fIxA_rule1, gT_rule, atI_c0, atI_c1, atI_c2, atI_c3, atI_c4, fLen, len_str, len_tup, len_slst, len_fz, len_lst, len_form, fInt, fIsA, isA_key, isA_ii, isA_is, isA_ib, isA_ss, wApp, wPar, wAugI, wChain, wYes, wipeE, wSl, woNone, woSome, fTupOf_tup, fTupOf_lst, fTupOf_slst, fTupOf_form, fLstOf, asL_slst, asL_lst, asR_slst, asR_fz, asR_lst, fMax, items_lst, items_fz, items_tup, items_form, items_str, wD0, wSetF, wFld, fields_ins, fields_sins, putFD, wMake, fIsN, fNotN, wDisp, wLc, wDcT, wGet2, isD_dT, isD_sdT, wPut, wForK, at1]
    refine cd_l1 (wt := some wo) hw1 hw2 hc (bf rs f) A _ hA hn hl (hcl f hf) fun A' y11 hA' hφ => ?_
    refine cd_l2 hw1 hw2 hL hn hl hcl M A' _ _ hA' (fun p m => hM p (by simp [m])) fun A2 z10 z11 hA2 hφ2 => ?_
    refine h A2 z10 z11 hA2 fun φ => ?_
    rw [hφ2 φ, hφ φ, pr_cons]
    exact Int.add_assoc _ _ _
theorem cd_l3 {rs : List Rl} {X0 X1 X2 X3 : Option OT} {fs : List Fm} {f0 : Fm} {x12 x13 : Option OT} {W : WEnds} (hn : fs.Nodup) (hl : fs.length ≤ 156) (hcl : ∀ f ∈ fs, ∀ g ∈ bf rs f, g ∈ fs) : ∀ (l : List Nat) (t : Nat) (L : Lv) (wo : OT) (x8 x9 x10 x11 : Option OT), wo.asT = some (lvD L) → wo.asK = none → keysOf L = fs → atStep rs f0 t L →
    (∀ x6 x8 x9 x10 x11, W.nx [X0, X1, X2, X3, some (.sh (.lst (fs.map formD))), some (.dT (bd rs fs)), x6, some (.sh (.int (cnt rs f0 (t + l.length)))), x8, x9, x10, x11, x12, x13]) →
    wLoop (gVar 8) b_count_derivations_7 W (l.map fun i => .int (i : Nat)) [X0, X1, X2, X3, some (.sh (.lst (fs.map formD))), some (.dT (bd rs fs)), some wo, some (.sh (.int (cnt rs f0 t))), x8, x9, x10, x11, x12, x13]
  | [], t, L, wo, x8, x9, x10, x11, _, _, _, _, h => h (some wo) x8 x9 x10 x11
  | i :: l, t, L, wo, x8, x9, x10, x11, hw1, hw2, hL, ht, h => by
    simp only [List.map_cons, wLoop]
    have hnL : (keysOf L).Nodup := by rw [hL]; exact hn
    simp [ub_count_derivations_7, wDef, env0, wEnds, wSeq, wIfS, wTst, wBin, wUse, wName, wC, wUn, wTup, wLst, waCons, waNil, wAsg, gVar, gTupD_mk, gsCons_mk, gsNil_mk, ex2, ex3, wRet, wRetN, wNext, wNever, wDrop, wFor, wiAny, wiRange1, wiRange2, wiEn, wCall, wNot, wAnd, wOr, wAndV, wOrV, wNotV, wIf, wTru, tru_non, tru_bl, tru_int, val_sh, val_lst, val_dT, val_dK, val_ins, intsD, fBl, fSub, fMul, fFdiv, fMod, fPow, fAddA_int, fAddA_form, fMulA_int, fIxA_rule0, fIxA_rule1, gT_rule, atI_c0, atI_c1, atI_c2, atI_c3, atI_c4, fLen, len_str, len_tup, len_slst, len_fz, len_lst, len_form, fInt, fIsA, isA_key, isA_ii, isA_is, isA_ib, isA_ss, wApp, wPar, wAugI, wChain, wYes, wipeE, wSl, woNone, woSome, fTupOf_tup, fTupOf_lst, fTupOf_slst, fTupOf_form, fLstOf, asL_slst, asL_lst, asR_slst, asR_fz, asR_lst, fMax, items_lst, items_fz, items_tup, items_form, items_str, wD0, wSetF, wFld, fields_ins, fields_sins, putFD, wMake, fIsN, fNotN, wDisp, wLc, wDcT, wGet2, isD_dT, isD_sdT, wPut, wForK]
    refine cd_dc (we := e_count_derivations_4) (fun _ _ => rfl) fs [] (by simpa using hn) (by simp; omega) ?_
    simp [List.nil_append, val_sh, items_lst]
    have e : fs.map formD = (keysOf L).map formD := by rw [hL]
    rw [e]
    refine cd_l2 hw1 hw2 hL hn hl hcl L (zeros fs) _ _ (keys_zeros fs) (fun p m => m) fun A' y10 y11 hA' hφ => ?_
    have hs : atStep rs f0 (t + 1) A' := fun s => by
      rw [hφ, pr_zeros, Int.zero_add]
      rw [show t + 1 + s = t + (s + 1) by omega]
      exact ht (s + 1)
    have hnA : (keysOf A').Nodup := by rw [hA']; exact hn
    have hv0 : val A' [.inl 0] = dn rs (t + 1) f0 := by
      rw [← pr_del hnA]
      exact hs 0
    have g1 : ∀ r, dGet (.sh (.dT (lvD A'))) (.sh (.stc [.int 0])) r = (r = lookK (lvD A') [.inl 0]) := fun r => dGet_Ts (f := [.inl 0]) rfl rfl
    rw [← e]
    simp [wDef, env0, wEnds, wSeq, wIfS, wTst, wBin, wUse, wName, wC, wUn, wTup, wLst, waCons, waNil, wAsg, gVar, gTupD_mk, gsCons_mk, gsNil_mk, ex2, ex3, wRet, wRetN, wNext, wNever, wDrop, wFor, wiAny, wiRange1, wiRange2, wiEn, wCall, wNot, wAnd, wOr, wAndV, wOrV, wNotV, wIf, wTru, tru_non, tru_bl, tru_int, val_sh, val_lst, val_dT, val_dK, val_ins, intsD, fBl, fSub, fMul, fFdiv, fMod, fPow, fAddA_int, fAddA_form, fMulA_int, fIxA_rule0, fIxA_rule1, gT_rule, atI_c0, atI_c1, atI_c2, atI_c3, atI_c4, fLen, len_str, len_tup, len_slst, len_fz, len_lst, len_form, fInt, fIsA, isA_key, isA_ii, isA_is, isA_ib, isA_ss, wApp, wPar, wAugI, wChain, wYes, wipeE, wSl, woNone, woSome, fTupOf_tup, fTupOf_lst, fTupOf_slst, fTupOf_form, fLstOf, asL_slst, asL_lst, asR_slst, asR_fz, asR_lst, fMax, items_lst, items_fz, items_tup, items_form, items_str, wD0, wSetF, wFld, fields_ins, fields_sins, putFD, wMake, fIsN, fNotN, wDisp, wLc, wDcT, wGet2, isD_dT, isD_sdT, wPut, wForK, g1, orElse_val, hv0]
    have q := cd_l3 (X0 := X0) (X1 := X1) (X2 := X2) (X3 := X3) (x12 := x12) (x13 := x13) (W := W) hn hl hcl l (t + 1) A' (.sh (.dT (lvD A'))) (some (.sh (.int (i : Nat)))) (some (.sh (.dT (lvD A')))) y10 y11 rfl rfl hA' hs (fun x6 x8 x9 x10 x11 => by
      have := h x6 x8 x9 x10 x11
      rw [List.length_cons, show t + (l.length + 1) = t + 1 + l.length by omega] at this
      exact this)
    simpa [cnt] using q
/-! ### the empty text -/
def eR : Rl := ([.inl 0], [])
def ecount (rs : List Rl) : Nat := (rs.filter fun r => decide (r = eR)).length
theorem er_lc {a0 : Option OT} {R : OT → Env' → Prop} : ∀ (rs : List Rl) (n : Nat) (acc : List D), (∀ r ∈ rs, okR r = true) → acc.length + rs.length < 1000 →
    (∀ xs : List D, xs.length = acc.length + ecount rs → R (.lst xs) [a0, none, none]) →
    lcLoop [1, 2] (gTupD 2 (gsCons (gVar 1) (gsCons (gVar 2) gsNil))) t_empty_rules_2 e_empty_rules_1 R (enumD n (rs.map ruleD)) acc [a0, none, none]
  | [], n, acc, _, _, h => h acc (by simp [ecount])
  | r :: rs, n, acc, ok, hl, h => by
    rw [List.map_cons, enumD_cons]
    simp only [lcLoop]
    simp only [List.length_cons] at hl
    have s2 : acc.length < sizeLine := by have := size_big; omega
    have z2 : (2 : Nat) ≤ sizeLine := by decide
    have ee : ∀ P : OT → Prop, fEq (.sh (ruleD r)) (.sh (.tup [.stc [.int 0], .tup []])) P = P (.sh (.bl (decide (r = eR)))) := fun P => by
      rw [fEq_mk (t1 := .sh (ruleD r)) (t2 := .sh (.tup [.stc [.int 0], .tup []])) (y := rulePy eR) (py_rule r) rfl (shaped_rule (ok r (by simp))) (by decide), eqv_rule]
    simp [ut_empty_rules_2, ue_empty_rules_1, wDef, env0, wEnds, wSeq, wIfS, wTst, wBin, wUse, wName, wC, wUn, wTup, wLst, waCons, waNil, wAsg, gVar, gTupD_mk, gsCons_mk, gsNil_mk, ex2, ex3, wRet, wRetN, wNext, wNever, wDrop, wFor, wiAny, wiRange1, wiRange2, wiEn, wCall, wNot, wAnd, wOr, wAndV, wOrV, wNotV, wIf, wTru, tru_non, tru_bl, tru_int, val_sh, val_lst, val_dT, val_dK, val_ins, intsD, fBl, fSub, fMul, fFdiv, fMod, fPow, fAddA_int, fAddA_form, fMulA_int, fIxA_rule0, fIxA_rule1, gT_rule, atI_c0, atI_c1, atI_c2, atI_c3, atI_c4, fLen, len_str, len_tup, len_slst, len_fz, len_lst, len_form, fInt, fIsA, isA_key, isA_ii, isA_is, isA_ib, isA_ss, wApp, wPar, wAugI, wChain, wYes, wipeE, wSl, woNone, woSome, fTupOf_tup, fTupOf_lst, fTupOf_slst, fTupOf_form, fLstOf, asL_slst, asL_lst, asR_slst, asR_fz, asR_lst, fMax, items_lst, items_fz, items_tup, items_form, items_str, wD0, wSetF, wFld, fields_ins, fields_sins, putFD, wMake, fIsN, fNotN, wDisp, wLc, wDcT, wGet2, isD_dT, isD_sdT, wPut, wForK, ee, z2]
    by_cases c : r = eR
    · simp [c, s2, List.set]
      exact er_lc rs (n + 1) _ (fun r' m => ok r' (by simp [m])) (by simp; omega) fun xs hx => h xs (by simp [ecount, c] at hx ⊢; omega)
    · simp [c, List.set]
      exact er_lc rs (n + 1) _ (fun r' m => ok r' (by simp [m])) (by omega) fun xs hx => h xs (by simp [ecount, c] at hx ⊢; exact hx)
theorem okR_rule {al : Str} {v : Int} {r : Rl} (ha : okAl al) (h : okRule al v r) : okR r = true := by
  simp only [okR, Bool.and_eq_true]
  exact ⟨okF_syms ha h.sl, okF_syms ha h.sr⟩
theorem empty_ok {al : Str} {v : Int} {rs : List Rl} {P : OT → Prop} (ok : okGr al v rs) (h : ∀ xs : List D, xs.length = ecount rs → P (.lst xs)) : φ_empty_rules [grD al v rs] P := by
  simp [φ_empty_rules, w_empty_rules, N_empty_rules, wDef, env0, wEnds, wSeq, wIfS, wTst, wBin, wUse, wName, wC, wUn, wTup, wLst, waCons, waNil, wAsg, gVar, gTupD_mk, gsCons_mk, gsNil_mk, ex2, ex3, wRet, wRetN, wNext, wNever, wDrop, wFor, wiAny, wiRange1, wiRange2, wiEn, wCall, wNot, wAnd, wOr, wAndV, wOrV, wNotV, wIf, wTru, tru_non, tru_bl, tru_int, val_sh, val_lst, val_dT, val_dK, val_ins, intsD, fBl, fSub, fMul, fFdiv, fMod, fPow, fAddA_int, fAddA_form, fMulA_int, fIxA_rule0, fIxA_rule1, gT_rule, atI_c0, atI_c1, atI_c2, atI_c3, atI_c4, fLen, len_str, len_tup, len_slst, len_fz, len_lst, len_form, fInt, fIsA, isA_key, isA_ii, isA_is, isA_ib, isA_ss, wApp, wPar, wAugI, wChain, wYes, wipeE, wSl, woNone, woSome, fTupOf_tup, fTupOf_lst, fTupOf_slst, fTupOf_form, fLstOf, asL_slst, asL_lst, asR_slst, asR_fz, asR_lst, fMax, items_lst, items_fz, items_tup, items_form, items_str, wD0, wSetF, wFld, fields_ins, fields_sins, putFD, wMake, fIsN, fNotN, wDisp, wLc, wDcT, wGet2, isD_dT, isD_sdT, wPut, wForK, fld_g, lk_r]
  exact er_lc rs 0 [] (fun r m => okR_rule ok.hal (ok.r r m)) (by have := ok.n; simp; omega) fun xs hx => h xs (by simpa using hx)
theorem ecount_le (rs : List Rl) : ecount rs ≤ rs.length := List.length_filter_le _ _
theorem count_empty_ok {al : Str} {v : Int} {rs : List Rl} {n : Int} {P : OT → Prop} (ok : okGr al v rs) (h : P (.sh (.int (if 0 < n then (ecount rs : Int) else 0)))) : φ_count_derivations [grD al v rs, .str ("" : Str), .int n, .int 20000] P := by
  have ek : okK (.inr ("" : Str)) = true := by decide +kernel
  simp [φ_count_derivations, w_count_derivations, N_count_derivations, wDef, env0, wEnds, wSeq, wIfS, wTst, wBin, wUse, wName, wC, wUn, wTup, wLst, waCons, waNil, wAsg, gVar, gTupD_mk, gsCons_mk, gsNil_mk, ex2, ex3, wRet, wRetN, wNext, wNever, wDrop, wFor, wiAny, wiRange1, wiRange2, wiEn, wCall, wNot, wAnd, wOr, wAndV, wOrV, wNotV, wIf, wTru, tru_non, tru_bl, tru_int, val_sh, val_lst, val_dT, val_dK, val_ins, intsD, fBl, fSub, fMul, fFdiv, fMod, fPow, fAddA_int, fAddA_form, fMulA_int, fIxA_rule0, fIxA_rule1, gT_rule, atI_c0, atI_c1, atI_c2, atI_c3, atI_c4, fLen, len_str, len_tup, len_slst, len_fz, len_lst, len_form, fInt, fIsA, isA_key, isA_ii, isA_is, isA_ib, isA_ss, wApp, wPar, wAugI, wChain, wYes, wipeE, wSl, woNone, woSome, fTupOf_tup, fTupOf_lst, fTupOf_slst, fTupOf_form, fLstOf, asL_slst, asL_lst, asR_slst, asR_fz, asR_lst, fMax, items_lst, items_fz, items_tup, items_form, items_str, wD0, wSetF, wFld, fields_ins, fields_sins, putFD, wMake, fIsN, fNotN, wDisp, wLc, wDcT, wGet2, isD_dT, isD_sdT, wPut, wForK]
  refine check_kind_ok ok ?_
  simp [fld_g, lk_al, ex2]
  refine check_text_ok ok.hal (by decide) (fun c m => absurd m (by have e : ("" : Str).cps.toList = [] := rfl; rw [e]; simp)) ?_
  simp [fEq_str ek ek]
  by_cases c : 0 < n
  · simp [c] at h ⊢
    refine .inr ?_
    refine empty_ok ok fun xs hx => ?_
    have := ecount_le rs
    have := ok.n
    have s : xs.length ≤ sizeLine := by have := size_big; omega
    simp [len_lst, s]
    rw [hx]
    exact h
  · simp [c] at h ⊢
    exact ⟨by omega, h⟩
theorem count_ok {al : Str} {v : Int} {rs : List Rl} {cs : List Nat} {n : Nat} {P : OT → Prop} (ok : okGr al v rs) (hv : v ≤ 3) (hs : sf (lets cs)) (hne : 0 < cs.length) (hcs : ∀ c ∈ cs, c ∈ al.cps.toList) (hn : n < 1000) (h : P (.sh (.int (cnt rs (lets cs) n)))) :
    φ_count_derivations [grD al v rs, .str (txt cs), .int (n : Nat), .int 20000] P := by
  have tk : okK (.inr (txt cs)) = true := by
    show PyData.strOk (txt cs) = true
    unfold PyData.strOk
    simp only [txt, List.all_toArray, List.all_eq_true, decide_eq_true_eq]
    intro c m
    have := hcs c m
    have : c = 97 ∨ c = 98 := by
      rcases ok.hal with rfl | rfl
      · simpa [abS] using this
      · have : c = 97 := by simpa [aS] using this
        exact .inl this
    rcases this with rfl | rfl <;> decide
  have ek : okK (.inr ("" : Str)) = true := by decide +kernel
  have tne : ¬ txt cs = ("" : Str) := fun e => by
    have : (txt cs).cps.size = ("" : Str).cps.size := by rw [e]
    have e2 : ("" : Str).cps.size = 0 := rfl
    rw [e2] at this
    simp [txt] at this
    rw [this] at hne
    simp at hne
  have tl : (txt cs).cps.toList = cs := by simp [txt]
  have cl : cs.length ≤ 3 := by have := hs.2; rw [lets_len] at this; exact this
  have b1 : -4611686018427387904 ≤ (n : Int) := by omega
  have b2 : (n : Int) < 4611686018427387904 := by omega
  simp [φ_count_derivations, w_count_derivations, N_count_derivations, wDef, env0, wEnds, wSeq, wIfS, wTst, wBin, wUse, wName, wC, wUn, wTup, wLst, waCons, waNil, wAsg, gVar, gTupD_mk, gsCons_mk, gsNil_mk, ex2, ex3, wRet, wRetN, wNext, wNever, wDrop, wFor, wiAny, wiRange1, wiRange2, wiEn, wCall, wNot, wAnd, wOr, wAndV, wOrV, wNotV, wIf, wTru, tru_non, tru_bl, tru_int, val_sh, val_lst, val_dT, val_dK, val_ins, intsD, fBl, fSub, fMul, fFdiv, fMod, fPow, fAddA_int, fAddA_form, fMulA_int, fIxA_rule0, fIxA_rule1, gT_rule, atI_c0, atI_c1, atI_c2, atI_c3, atI_c4, fLen, len_str, len_tup, len_slst, len_fz, len_lst, len_form, fInt, fIsA, isA_key, isA_ii, isA_is, isA_ib, isA_ss, wApp, wPar, wAugI, wChain, wYes, wipeE, wSl, woNone, woSome, fTupOf_tup, fTupOf_lst, fTupOf_slst, fTupOf_form, fLstOf, asL_slst, asL_lst, asR_slst, asR_fz, asR_lst, fMax, items_lst, items_fz, items_tup, items_form, items_str, wD0, wSetF, wFld, fields_ins, fields_sins, putFD, wMake, fIsN, fNotN, wDisp, wLc, wDcT, wGet2, isD_dT, isD_sdT, wPut, wForK]
  refine check_kind_ok ok ?_
  simp [fld_g, lk_al, ex2]
  refine check_text_ok ok.hal (by simp [txt, lenStr]; omega) (by rw [tl]; exact hcs) ?_
  simp [fEq_str tk ek, tne]
  refine origins_ok ok hv hs hne hcs fun fs bs hnd hsf hcl h0 => ?_
  have hl := short_len hnd hsf
  have at0 : ∀ P : OT → Prop, fIxA (.sh (.tup [.lst (fs.map formD), .dT bs])) (.sh (.int 0)) P = P (.sh (.lst (fs.map formD))) := fun P => by simp [fIxA_tup, atI_c0]
  have at1 : ∀ P : OT → Prop, fIxA (.sh (.lst (fs.map formD))) (.sh (.int 0)) P = P (.sh (formD (lets cs))) := fun P => by
    have e : atI fs 0 = some (lets cs) := by
      have := EV.atI_nat fs 0
      rw [show ((0 : Nat) : Int) = 0 from rfl] at this
      rw [this, h0]
    rw [fIxA_slst, atI_map, e]
    simp
  have hmem : lets cs ∈ fs := List.mem_of_getElem? h0
  simp [at0]
  simp [wDef, env0, wEnds, wSeq, wIfS, wTst, wBin, wUse, wName, wC, wUn, wTup, wLst, waCons, waNil, wAsg, gVar, gTupD_mk, gsCons_mk, gsNil_mk, ex2, ex3, wRet, wRetN, wNext, wNever, wDrop, wFor, wiAny, wiRange1, wiRange2, wiEn, wCall, wNot, wAnd, wOr, wAndV, wOrV, wNotV, wIf, wTru, tru_non, tru_bl, tru_int, val_sh, val_lst, val_dT, val_dK, val_ins, intsD, fBl, fSub, fMul, fFdiv, fMod, fPow, fAddA_int, fAddA_form, fMulA_int, fIxA_rule0, fIxA_rule1, gT_rule, atI_c0, atI_c1, atI_c2, atI_c3, atI_c4, fLen, len_str, len_tup, len_slst, len_fz, len_lst, len_form, fInt, fIsA, isA_key, isA_ii, isA_is, isA_ib, isA_ss, wApp, wPar, wAugI, wChain, wYes, wipeE, wSl, woNone, woSome, fTupOf_tup, fTupOf_lst, fTupOf_slst, fTupOf_form, fLstOf, asL_slst, asL_lst, asR_slst, asR_fz, asR_lst, fMax, items_lst, items_fz, items_tup, items_form, items_str, wD0, wSetF, wFld, fields_ins, fields_sins, putFD, wMake, fIsN, fNotN, wDisp, wLc, wDcT, wGet2, isD_dT, isD_sdT, wPut, wForK]
  refine cd_dcB (acc := []) ok fs (by simpa using hnd) hsf (by simp; omega) ?_
  simp [List.nil_append, val_sh, items_lst]
  refine cd_dc (we := e_count_derivations_3) (acc := []) (fun _ _ => rfl) fs (by simpa using hnd) (by simp; omega) ?_
  have hsz : (lvD (zeros fs)).length < sizeLine := by have := size_big; simp [lvD, zeros]; omega
  simp [at1, List.nil_append, b1, b2]
  refine ⟨_, putD_T hsz, ?_⟩
  rw [lvD_put, rangeD0]
  have hz : val (zeros fs) (lets cs) + 1 = 1 := by
    have : (keysOf (zeros fs)).Nodup := by rw [keys_zeros]; exact hnd
    rw [← pr_del this, pr_zeros]
    rfl
  refine cd_l3 (f0 := lets cs) hnd hl hcl (List.range n) 0 (putG (zeros fs) (lets cs) 1) (.dT _) _ _ _ _ rfl rfl (by rw [keys_in _ (by rw [keys_zeros]; exact hmem), keys_zeros]) (fun s => ?_) fun x6 x8 x9 x10 x11 => ?_
  · have := pr_put (l := zeros fs) (by rw [keys_zeros]; exact hnd) (lets cs) 1 (dn rs s)
    rw [hz, pr_zeros] at this
    rw [this]
    simp
  · simpa [wDef, env0, wEnds, wSeq, wIfS, wTst, wBin, wUse, wName, wC, wUn, wTup, wLst, waCons, waNil, wAsg, gVar, gTupD_mk, gsCons_mk, gsNil_mk, ex2, ex3, wRet, wRetN, wNext, wNever, wDrop, wFor, wiAny, wiRange1, wiRange2, wiEn, wCall, wNot, wAnd, wOr, wAndV, wOrV, wNotV, wIf, wTru, tru_non, tru_bl, tru_int, val_sh, val_lst, val_dT, val_dK, val_ins, intsD, fBl, fSub, fMul, fFdiv, fMod, fPow, fAddA_int, fAddA_form, fMulA_int, fIxA_rule0, fIxA_rule1, gT_rule, atI_c0, atI_c1, atI_c2, atI_c3, atI_c4, fLen, len_str, len_tup, len_slst, len_fz, len_lst, len_form, fInt, fIsA, isA_key, isA_ii, isA_is, isA_ib, isA_ss, wApp, wPar, wAugI, wChain, wYes, wipeE, wSl, woNone, woSome, fTupOf_tup, fTupOf_lst, fTupOf_slst, fTupOf_form, fLstOf, asL_slst, asL_lst, asR_slst, asR_fz, asR_lst, fMax, items_lst, items_fz, items_tup, items_form, items_str, wD0, wSetF, wFld, fields_ins, fields_sins, putFD, wMake, fIsN, fNotN, wDisp, wLc, wDcT, wGet2, isD_dT, isD_sdT, wPut, wForK] using h
end EW

set_option maxHeartbeats 4000000
/-! k70, plain: the law. -/
namespace EW
open PySem PySem.Spec L2 EV
def lawTail : WS := (wSeq (wAsg (wMake "Grammar" φ_Grammar_init (waCons (wBin fIxA (wUse 1) (wC (.int 0))) (waCons (wBin fIxA (wUse 1) (wC (.int 1))) (waCons (wName 3) waNil)))) (gVar 5))
      (wSeq (wAsg (wUn fInt (wBin fIxA (wUse 2) (wC (.int 13)))) (gVar 6))
      (wSeq (wAsg (wCall φ__law_counted_rows (waCons (wName 3) (waCons (wName 4) (waCons (wName 6) waNil))) []) (gVar 7))
      (wSeq (wAsg (wCall φ_count_derivations (waCons (wName 5) (waCons (wName 4) (waCons (wName 6) waNil))) [(.int 20000)]) (gVar 8))
      (wSeq (wIfS (wOr (wNot (wTru (wCall φ__law_whole (waCons (wName 8) waNil) []))) (wOr (wTst (wBin fNe (wUse 8) (wUse 7))) (wTst (wBin (fBl fun i j => decide (i < j)) (wCall φ_count_derivations (waCons (wName 5) (waCons (wName 4) (waCons (wBin fAddA (wUse 6) (wC (.int 1))) waNil))) [(.int 20000)]) (wUse 7))))) (wRet (wC (.bl false))) wNext)
      (wSeq (wAsg (wBin fAddA (wLst (waCons (wC (.int 0)) waNil)) (wLc (([("k", 13)] : List (Str × Nat)).map (·.2)) (wiRange2 (wC (.int 1)) (wBin fIxA (wUse 1) (wC (.int 1)))) (gVar 13) wYes e_law_1)) (gVar 9))
      (wSeq (wIfS (wTst (wBin fNe (wCall φ_count_derivations (waCons (wCall φ_renamed (waCons (wName 5) (waCons (wName 9) waNil)) []) (waCons (wName 4) (waCons (wName 6) waNil))) [(.int 20000)]) (wUse 7))) (wRet (wC (.bl false))) wNext)
      (wSeq (wAsg (wUn fLen (wLc (([("rule", 14)] : List (Str × Nat)).map (·.2)) (wiAny (wName 3)) (gVar 14) t_law_3 e_law_2)) (gVar 10))
      (wSeq (wIfS (wOr (wTst (wBin fNe (wCall φ_count_derivations (waCons (wName 5) (waCons (wC (.str "")) (waCons (wBin fAddA (wC (.int 1)) (wUse 6)) waNil))) [(.int 20000)]) (wUse 10))) (wTst (wBin fNe (wCall φ_count_derivations (waCons (wName 5) (waCons (wC (.str "")) (waCons (wC (.int 0)) waNil))) [(.int 20000)]) (wC (.int 0))))) (wRet (wC (.bl false))) wNext)
      (wSeq (wIfS (wTst (wBin fNe (wCall φ_count_derivations (waCons (wName 5) (waCons (wName 4) (waCons (wC (.int 0)) waNil))) [(.int 20000)]) (wC (.int 0)))) (wRet (wC (.bl false))) wNext)
      (wSeq (wIfS (wTst (wBin (fBl fun i j => decide (j < i)) (wUn fLen (wUse 4)) (wC (.int 1)))) (wSeq (wAsg (wMake "Grammar" φ_Grammar_init (waCons (wBin fIxA (wUse 1) (wC (.int 0))) (waCons (wBin fIxA (wUse 1) (wC (.int 1))) (waCons (wBin fAddA (wUse 3) (wLst (waCons (wTup (waCons (wTup (waCons (wC (.int 0)) waNil)) (waCons (wTup (waCons (wBin fIxA (wUse 4) (wC (.int 0))) waNil)) waNil))) waNil))) waNil)))) (gVar 11))
        (wSeq (wAsg (wCall φ__law_counted_rows (waCons (wBin fAddA (wUse 3) (wLst (waCons (wTup (waCons (wTup (waCons (wC (.int 0)) waNil)) (waCons (wTup (waCons (wBin fIxA (wUse 4) (wC (.int 0))) waNil)) waNil))) waNil))) (waCons (wName 4) (waCons (wName 6) waNil))) []) (gVar 12))
        (wRet (wAndV (wBin fEq (wCall φ_count_derivations (waCons (wName 11) (waCons (wName 4) (waCons (wName 6) waNil))) [(.int 20000)]) (wUse 12)) (wBin fGeA (wUse 12) (wUse 7)))))) wNext)
      (wRet (wC (.bl true))))))))))))))
def sg (v : Int) (i : Int) : Int := if 1 ≤ i ∧ i < v then v - i else i
theorem sg_sg (v : Int) (i : Int) : sg v (sg v i) = i := by
  unfold sg
  by_cases c : 1 ≤ i ∧ i < v
  · have c2 : 1 ≤ v - i ∧ v - i < v := by omega
    simp only [if_pos c, if_pos c2]
    omega
  · simp only [if_neg c]
theorem sg_0 (v : Int) : sg v 0 = 0 := by unfold sg; rw [if_neg (by omega)]
theorem sg_sym {al : Str} {v : Int} {k : Key} (h : okSym al v k) : okSym al v (renK (sg v) k) := by
  cases k with
  | inr x => exact h
  | inl i =>
    obtain ⟨h1, h2⟩ := h
    show 0 ≤ sg v i ∧ sg v i < v
    unfold sg
    split <;> omega
theorem isV_ren (s : Int → Int) (k : Key) : isV (renK s k) = isV k := by cases k <;> rfl
theorem okRule_ren {al : Str} {v : Int} {r : Rl} (h : okRule al v r) : okRule al v (renR (sg v) r) := by
  refine ⟨fun k m => ?_, fun k m => ?_, ?_, ?_, ?_⟩
  · obtain ⟨k', m', rfl⟩ := List.mem_map.mp m
    exact sg_sym (h.sl k' m')
  · obtain ⟨k', m', rfl⟩ := List.mem_map.mp m
    exact sg_sym (h.sr k' m')
  · obtain ⟨k, m, hv⟩ := h.hv
    exact ⟨renK (sg v) k, List.mem_map_of_mem m, by rw [isV_ren]; exact hv⟩
  · simpa [renR, renF] using h.ll
  · simpa [renR, renF] using h.rl
theorem isS_ren (v : Int) (k : Key) : isS (renK (sg v) k) = isS k := by
  unfold isS
  have e : renK (sg v) (.inl 0) = .inl 0 := by simp [renK, sg_0]
  have inv : ∀ k, renK (sg v) (renK (sg v) k) = k := fun k => by cases k <;> simp [renK, sg_sg]
  have : (renK (sg v) k = .inl 0) = (k = .inl 0) := propext ⟨fun h => by rw [← inv k, h, e], fun h => by rw [h, e]⟩
  simp only [this]
theorem brought_ren (v : Int) (rs : List Rl) : brought (rs.map (renR (sg v))) = brought rs := by
  unfold brought
  rw [List.any_map]
  congr 1
  funext r
  simp only [Function.comp, renR, renF, List.any_map]
  congr 1
  funext k
  exact isS_ren v k
theorem okGr_ren {al : Str} {v : Int} {rs : List Rl} (ok : okGr al v rs) : okGr al v (rs.map (renR (sg v))) := by
  refine ⟨ok.hal, ok.hv, fun r m => ?_, fun r m => ?_, by rw [List.length_map]; exact ok.n⟩
  · obtain ⟨r', m', rfl⟩ := List.mem_map.mp m
    exact okRule_ren (ok.r r' m')
  · obtain ⟨r', m', rfl⟩ := List.mem_map.mp m
    rw [brought_ren]
    rcases ok.k r' m' with h | ⟨h1, h2⟩
    · exact .inl (by simpa [renR, renF] using h)
    · refine .inr ⟨h1, ?_⟩
      rw [h2]
      simp [renR, renF, renK, sg_0]
theorem renF_lets (s : Int → Int) (cs : List Nat) : renF s (lets cs) = lets cs := by simp [renF, lets, renK]
theorem okGr_more {al : Str} {v : Int} {rs : List Rl} {c : Nat} (ok : okGr al v rs) (hc : c ∈ al.cps.toList) (hn : rs.length ≤ 15) : okGr al v (rs ++ [([.inl 0], [ltr c])]) := by
  have hb : brought (rs ++ [([.inl 0], [ltr c])]) = brought rs := by simp [brought, isS, ltr]
  have hv := ok.hv
  refine ⟨ok.hal, ok.hv, fun r m => ?_, fun r m => ?_, by simp; omega⟩
  · rcases List.mem_append.mp m with m | m
    · exact ok.r r m
    · simp at m
      subst m
      exact ⟨fun k m => by simp at m; subst m; exact ⟨by decide, by omega⟩, fun k m => by simp at m; subst m; exact okltr hc, ⟨.inl 0, by simp, rfl⟩, by simp, by simp⟩
  · rw [hb]
    rcases List.mem_append.mp m with m | m
    · exact ok.k r m
    · simp at m
      subst m
      exact .inl (by simp)
theorem okGr_drawn {al : List Nat} {v : Int} {rs : List Rl} (ok : okDrawn al v rs) : okGr (txt al) v rs := ⟨ok.hal, by have := ok.hv; omega, ok.r, ok.k, by have := ok.n; omega⟩
theorem okGr_twice {al : Str} {v : Int} {rs : List Rl} {r : Rl} (ok : okGr al v rs) (hr : r ∈ rs) (hn : rs.length ≤ 15) : okGr al v (rs ++ [r]) := by
  have hb : brought (rs ++ [r]) = brought rs := by
    unfold brought
    rw [List.any_append]
    simp only [List.any_cons, List.any_nil, Bool.or_false]
    cases h : r.2.any isS with
    | false => simp
    | true =>
      have : (rs.any fun r => r.2.any isS) = true := List.any_eq_true.mpr ⟨r, hr, h⟩
      rw [this]; rfl
  refine ⟨ok.hal, ok.hv, fun r' m => ?_, fun r' m => ?_, by simp; omega⟩
  · rcases List.mem_append.mp m with m | m
    · exact ok.r r' m
    · simp at m; subst m; exact ok.r r' hr
  · rw [hb]
    rcases List.mem_append.mp m with m | m
    · exact ok.k r' m
    · simp at m; subst m; exact ok.k r' hr
theorem law_lcE {a0 a1 a2 a3 a4 a5 a6 a7 a8 a9 a10 a11 a12 a13 : Option OT} {R : OT → Env' → Prop} : ∀ (rs : List Rl) (acc : List D), (∀ r ∈ rs, okR r = true) → acc.length + rs.length < 1000 →
    (∀ xs : List D, xs.length = acc.length + ecount rs → R (.lst xs) [a0, a1, a2, a3, a4, a5, a6, a7, a8, a9, a10, a11, a12, a13, none]) →
    lcLoop [14] (gVar 14) t_law_3 e_law_2 R (rs.map ruleD) acc [a0, a1, a2, a3, a4, a5, a6, a7, a8, a9, a10, a11, a12, a13, none]
  | [], acc, _, _, h => h acc (by simp [ecount])
  | r :: rs, acc, ok, hl, h => by
    simp only [List.map_cons, lcLoop]
    simp only [List.length_cons] at hl
    have s2 : acc.length < sizeLine := by have := size_big; omega
    have z1 : (1 : Nat) ≤ sizeLine := by decide
    have z2 : (2 : Nat) ≤ sizeLine := by decide
    have ee : ∀ P : OT → Prop, fEq (.sh (ruleD r)) (.sh (.tup [.tup [.int 0], .tup []])) P = P (.sh (.bl (decide (r = eR)))) := fun P => by
      have e : (D.tup [.tup [.int 0], .tup []]) = ruleD eR := rfl
      rw [e, fEq_rule (ok r (by simp)) (by decide)]
    simp [ut_law_3, ue_law_2, wDef, env0, wEnds, wSeq, wIfS, wTst, wBin, wUse, wName, wC, wUn, wTup, wLst, waCons, waNil, wAsg, gVar, gTupD_mk, gsCons_mk, gsNil_mk, ex2, ex3, wRet, wRetN, wNext, wNever, wDrop, wFor, wiAny, wiRange1, wiRange2, wiEn, wCall, wNot, wAnd, wOr, wAndV, wOrV, wNotV, wIf, wTru, tru_non, tru_bl, tru_int, val_sh, val_lst, val_dT, val_dK, val_ins, intsD, fBl, fSub, fMul, fFdiv, fMod, fPow, fAddA_int, fAddA_form, fMulA_int, fIxA_rule0, fIxA_rule1, gT_rule, atI_c0, atI_c1, atI_c2, atI_c3, atI_c4, fLen, len_str, len_tup, len_slst, len_fz, len_lst, len_form, fInt, fIsA, isA_key, isA_ii, isA_is, isA_ib, isA_ss, wApp, wPar, wAugI, wChain, wYes, wipeE, wSl, woNone, woSome, fTupOf_tup, fTupOf_lst, fTupOf_slst, fTupOf_form, fLstOf, asL_slst, asL_lst, asR_slst, asR_fz, asR_lst, fMax, items_lst, items_fz, items_tup, items_form, items_str, wD0, wSetF, wFld, fields_ins, fields_sins, putFD, wMake, fIsN, fNotN, wDisp, wLc, wDcT, wGet2, isD_dT, isD_sdT, wPut, wForK, ee, z1, z2]
    by_cases c : r = eR
    · simp [c, s2, List.set]
      exact law_lcE rs _ (fun r' m => ok r' (by simp [m])) (by simp; omega) fun xs hx => h xs (by simp [ecount, c] at hx ⊢; omega)
    · simp [c, List.set]
      exact law_lcE rs _ (fun r' m => ok r' (by simp [m])) (by omega) fun xs hx => h xs (by simp [ecount, c] at hx ⊢; exact hx)
def sizes2 : List Int := [9, 9, 9, 9, 9, 9, 9, 9, 9, 9, 9, 2, 9, 10]
end EW

set_option maxHeartbeats 4000000
/-! k70, plain: the law's tail. -/
namespace EW
open PySem PySem.Spec L2 EV
theorem order_at (v : Int) (hv : v = 2 ∨ v = 3) : ∃ o : List Int, (∀ i, 0 ≤ i → i < v → atI o i = some (sg v i)) ∧ (∀ P : OT → Prop, P (.sh .non) → φ_check_order [.lst (intsL o), .int v, .int 1] P) ∧
    ∃ o2 : List Int, o = 0 :: o2 ∧ o2.length ≤ 2 ∧ ∀ (a0 a1 : Option OT) (rest : List D) (a2 a3 a4 a5 a6 a7 a8 a9 a10 a11 a12 a14 : Option OT) (R : OT → Env' → Prop) (x : D), R (.lst (intsL o2)) [a0, some (.lst [x, .int v, .lst rest]), a2, a3, a4, a5, a6, a7, a8, a9, a10, a11, a12, none, a14] →
      lcLoop [13] (gVar 13) wYes e_law_1 R (rangeD 1 (v - 1).toNat) [] [a0, some (.lst [x, .int v, .lst rest]), a2, a3, a4, a5, a6, a7, a8, a9, a10, a11, a12, none, a14] := by
  have z0 : (0 : Nat) < sizeLine := by decide
  have z1 : (1 : Nat) < sizeLine := by decide
  rcases hv with rfl | rfl
  · refine ⟨[0, 1], fun i h0 h1 => ?_, fun P h => check_order_2 h, [1], rfl, by decide, fun a0 a1 rest a2 a3 a4 a5 a6 a7 a8 a9 a10 a11 a12 a14 R x h => ?_⟩
    · have : i = 0 ∨ i = 1 := by omega
      rcases this with rfl | rfl <;> rfl
    · have e : rangeD 1 ((2 : Int) - 1).toNat = [.int 1] := rfl
      rw [e]
      simp [lcLoop, ue_law_1, wDef, env0, wEnds, wSeq, wIfS, wTst, wBin, wUse, wName, wC, wUn, wTup, wLst, waCons, waNil, wAsg, gVar, gTupD_mk, gsCons_mk, gsNil_mk, ex2, ex3, wRet, wRetN, wNext, wNever, wDrop, wFor, wiAny, wiRange1, wiRange2, wiEn, wCall, wNot, wAnd, wOr, wAndV, wOrV, wNotV, wIf, wTru, tru_non, tru_bl, tru_int, val_sh, val_lst, val_dT, val_dK, val_ins, intsD, fBl, fSub, fMul, fFdiv, fMod, fPow, fAddA_int, fAddA_form, fMulA_int, fIxA_rule0, fIxA_rule1, gT_rule, atI_c0, atI_c1, atI_c2, atI_c3, atI_c4, fLen, len_str, len_tup, len_slst, len_fz, len_lst, len_form, fInt, fIsA, isA_key, isA_ii, isA_is, isA_ib, isA_ss, wApp, wPar, wAugI, wChain, wYes, wipeE, wSl, woNone, woSome, fTupOf_tup, fTupOf_lst, fTupOf_slst, fTupOf_form, fLstOf, asL_slst, asL_lst, asR_slst, asR_fz, asR_lst, fMax, items_lst, items_fz, items_tup, items_form, items_str, wD0, wSetF, wFld, fields_ins, fields_sins, putFD, wMake, fIsN, fNotN, wDisp, wLc, wDcT, wGet2, isD_dT, isD_sdT, wPut, wForK, fIxA_lst, List.set, z0]
      exact h
  · refine ⟨[0, 2, 1], fun i h0 h1 => ?_, fun P h => check_order_3 h, [2, 1], rfl, by decide, fun a0 a1 rest a2 a3 a4 a5 a6 a7 a8 a9 a10 a11 a12 a14 R x h => ?_⟩
    · have : i = 0 ∨ i = 1 ∨ i = 2 := by omega
      rcases this with rfl | rfl | rfl <;> rfl
    · have e : rangeD 1 ((3 : Int) - 1).toNat = [.int 1, .int 2] := rfl
      rw [e]
      simp [lcLoop, ue_law_1, wDef, env0, wEnds, wSeq, wIfS, wTst, wBin, wUse, wName, wC, wUn, wTup, wLst, waCons, waNil, wAsg, gVar, gTupD_mk, gsCons_mk, gsNil_mk, ex2, ex3, wRet, wRetN, wNext, wNever, wDrop, wFor, wiAny, wiRange1, wiRange2, wiEn, wCall, wNot, wAnd, wOr, wAndV, wOrV, wNotV, wIf, wTru, tru_non, tru_bl, tru_int, val_sh, val_lst, val_dT, val_dK, val_ins, intsD, fBl, fSub, fMul, fFdiv, fMod, fPow, fAddA_int, fAddA_form, fMulA_int, fIxA_rule0, fIxA_rule1, gT_rule, atI_c0, atI_c1, atI_c2, atI_c3, atI_c4, fLen, len_str, len_tup, len_slst, len_fz, len_lst, len_form, fInt, fIsA, isA_key, isA_ii, isA_is, isA_ib, isA_ss, wApp, wPar, wAugI, wChain, wYes, wipeE, wSl, woNone, woSome, fTupOf_tup, fTupOf_lst, fTupOf_slst, fTupOf_form, fLstOf, asL_slst, asL_lst, asR_slst, asR_fz, asR_lst, fMax, items_lst, items_fz, items_tup, items_form, items_str, wD0, wSetF, wFld, fields_ins, fields_sins, putFD, wMake, fIsN, fNotN, wDisp, wLc, wDcT, wGet2, isD_dT, isD_sdT, wPut, wForK, fIxA_lst, List.set, z0, z1]
      exact h
theorem tail_ok {S : OT} {al : List Nat} {v : Int} {rs0 rs : List Rl} {cs : List Nat} {row : List Int} {n : Nat} {P : OT → Prop} {x5 x6 x7 x8 x9 x10 x11 x12 x13 x14 : Option OT} (ok : okGr (txt al) v rs) (hv : v = 2 ∨ v = 3) (hn : rs.length ≤ 10) (c0 : 0 < cs.length) (c3 : cs.length ≤ 3) (hc : ∀ c ∈ cs, c ∈ al)
    (h13 : atI (intsL row) 13 = some (.int (n : Nat))) (hnn : n < 10) (h : P (.sh (.bl true))) :
    lawTail (wEnds P) [some S, some (.lst [.str (txt al), .int v, rulesD rs0]), some (.sh (.lst (intsL row))), some (.sh (rulesD rs)), some (.sh (.str (txt cs))), none, none, none, none, none, none, none, none, none, none] := by
  have tl : (txt al).cps.toList = al := by simp [txt]
  have hc' : ∀ c ∈ cs, c ∈ (txt al).cps.toList := by rw [tl]; exact hc
  have hv3 : v ≤ 3 := by omega
  have d0 : ∀ P : OT → Prop, fIxA (.lst [.str (txt al), .int v, rulesD rs0]) (.sh (.int 0)) P = P (.sh (.str (txt al))) := fun P => by simp [fIxA_lst, atI_c0]
  have d1 : ∀ P : OT → Prop, fIxA (.lst [.str (txt al), .int v, rulesD rs0]) (.sh (.int 1)) P = P (.sh (.int v)) := fun P => by simp [fIxA_lst, atI_c1]
  have r13 : ∀ P : OT → Prop, fIxA (.sh (.lst (intsL row))) (.sh (.int 13)) P = P (.sh (.int (n : Nat))) := fun P => by rw [fIxA_slst, h13]; simp
  have sfc : sf (lets cs) := ⟨fun k m => by
    obtain ⟨c, mc, rfl⟩ := List.mem_map.mp m
    exact SS_sym (v := 3) ok.hal (by omega) (okltr (hc' c mc)), by rw [lets_len]; exact c3⟩
  have oku := okUn_gr ok hv3
  have rsz : rs.length < sizeLine := by have := size_big; omega
  simp only [lawTail]
  simp [wDef, env0, wEnds, wSeq, wIfS, wTst, wBin, wUse, wName, wC, wUn, wTup, wLst, waCons, waNil, wAsg, gVar, gTupD_mk, gsCons_mk, gsNil_mk, ex2, ex3, wRet, wRetN, wNext, wNever, wDrop, wFor, wiAny, wiRange1, wiRange2, wiEn, wCall, wNot, wAnd, wOr, wAndV, wOrV, wNotV, wIf, wTru, tru_non, tru_bl, tru_int, val_sh, val_lst, val_dT, val_dK, val_ins, intsD, fBl, fSub, fMul, fFdiv, fMod, fPow, fAddA_int, fAddA_form, fMulA_int, fIxA_rule0, fIxA_rule1, gT_rule, atI_c0, atI_c1, atI_c2, atI_c3, atI_c4, fLen, len_str, len_tup, len_slst, len_fz, len_lst, len_form, fInt, fIsA, isA_key, isA_ii, isA_is, isA_ib, isA_ss, wApp, wPar, wAugI, wChain, wYes, wipeE, wSl, woNone, woSome, fTupOf_tup, fTupOf_lst, fTupOf_slst, fTupOf_form, fLstOf, asL_slst, asL_lst, asR_slst, asR_fz, asR_lst, fMax, items_lst, items_fz, items_tup, items_form, items_str, wD0, wSetF, wFld, fields_ins, fields_sins, putFD, wMake, fIsN, fNotN, wDisp, wLc, wDcT, wGet2, isD_dT, isD_sdT, wPut, wForK, d0, d1, r13]
  intro a
  refine init_ok ok.hal ok.hv ok.r rsz ?_
  refine counted_ok oku (by omega) sfc (by omega) ?_
  refine count_ok ok hv3 sfc c0 hc' (by omega) ?_
  simp [wDef, env0, wEnds, wSeq, wIfS, wTst, wBin, wUse, wName, wC, wUn, wTup, wLst, waCons, waNil, wAsg, gVar, gTupD_mk, gsCons_mk, gsNil_mk, ex2, ex3, wRet, wRetN, wNext, wNever, wDrop, wFor, wiAny, wiRange1, wiRange2, wiEn, wCall, wNot, wAnd, wOr, wAndV, wOrV, wNotV, wIf, wTru, tru_non, tru_bl, tru_int, val_sh, val_lst, val_dT, val_dK, val_ins, intsD, fBl, fSub, fMul, fFdiv, fMod, fPow, fAddA_int, fAddA_form, fMulA_int, fIxA_rule0, fIxA_rule1, gT_rule, atI_c0, atI_c1, atI_c2, atI_c3, atI_c4, fLen, len_str, len_tup, len_slst, len_fz, len_lst, len_form, fInt, fIsA, isA_key, isA_ii, isA_is, isA_ib, isA_ss, wApp, wPar, wAugI, wChain, wYes, wipeE, wSl, woNone, woSome, fTupOf_tup, fTupOf_lst, fTupOf_slst, fTupOf_form, fLstOf, asL_slst, asL_lst, asR_slst, asR_fz, asR_lst, fMax, items_lst, items_fz, items_tup, items_form, items_str, wD0, wSetF, wFld, fields_ins, fields_sins, putFD, wMake, fIsN, fNotN, wDisp, wLc, wDcT, wGet2, isD_dT, isD_sdT, wPut, wForK]
  refine law_whole_int ?_
  simp [tru_bl, fNe_int]
  refine count_ok (n := n + 1) ok hv3 sfc c0 hc' (by omega) ?_
  have hm := cnt_mono rs (lets cs) n
  have z1 : (1 : Nat) ≤ sizeLine := by decide
  have hm' : ¬ (cnt rs (lets cs) (n + 1) < cnt rs (lets cs) n) := by omega
  have v1 : -4611686018427387904 ≤ v := by omega
  have v2 : v < 4611686018427387904 := by omega
  simp [hm', hm, z1, v1, v2]
  obtain ⟨o, ho, hck, o2, rfl, ol, hlc⟩ := order_at v hv
  rw [show v.toNat - 1 = (v - 1).toNat by omega]
  refine hlc _ none (rs0.map ruleD) _ _ _ _ _ _ _ _ _ _ _ _ _ _ ?_
  have osz : (1 : Nat) + o2.length ≤ sizeLine := by have := size_big; omega
  rw [fAddA_lst (xs := [.int 0]) (ys := intsL o2) rfl rfl]
  refine ⟨by simpa [intsL] using osz, ?_⟩
  simp [wDef, env0, wEnds, wSeq, wIfS, wTst, wBin, wUse, wName, wC, wUn, wTup, wLst, waCons, waNil, wAsg, gVar, gTupD_mk, gsCons_mk, gsNil_mk, ex2, ex3, wRet, wRetN, wNext, wNever, wDrop, wFor, wiAny, wiRange1, wiRange2, wiEn, wCall, wNot, wAnd, wOr, wAndV, wOrV, wNotV, wIf, wTru, tru_non, tru_bl, tru_int, val_sh, val_lst, val_dT, val_dK, val_ins, intsD, fBl, fSub, fMul, fFdiv, fMod, fPow, fAddA_int, fAddA_form, fMulA_int, fIxA_rule0, fIxA_rule1, gT_rule, atI_c0, atI_c1, atI_c2, atI_c3, atI_c4, fLen, len_str, len_tup, len_slst, len_fz, len_lst, len_form, fInt, fIsA, isA_key, isA_ii, isA_is, isA_ib, isA_ss, wApp, wPar, wAugI, wChain, wYes, wipeE, wSl, woNone, woSome, fTupOf_tup, fTupOf_lst, fTupOf_slst, fTupOf_form, fLstOf, asL_slst, asL_lst, asR_slst, asR_fz, asR_lst, fMax, items_lst, items_fz, items_tup, items_form, items_str, wD0, wSetF, wFld, fields_ins, fields_sins, putFD, wMake, fIsN, fNotN, wDisp, wLc, wDcT, wGet2, isD_dT, isD_sdT, wPut, wForK]
  refine renamed_ok (o := 0 :: o2) (s := sg v) ok ho (fun r m => okRule_ren (ok.r r m)) hck fun b => ?_
  simp [wDef, env0, wEnds, wSeq, wIfS, wTst, wBin, wUse, wName, wC, wUn, wTup, wLst, waCons, waNil, wAsg, gVar, gTupD_mk, gsCons_mk, gsNil_mk, ex2, ex3, wRet, wRetN, wNext, wNever, wDrop, wFor, wiAny, wiRange1, wiRange2, wiEn, wCall, wNot, wAnd, wOr, wAndV, wOrV, wNotV, wIf, wTru, tru_non, tru_bl, tru_int, val_sh, val_lst, val_dT, val_dK, val_ins, intsD, fBl, fSub, fMul, fFdiv, fMod, fPow, fAddA_int, fAddA_form, fMulA_int, fIxA_rule0, fIxA_rule1, gT_rule, atI_c0, atI_c1, atI_c2, atI_c3, atI_c4, fLen, len_str, len_tup, len_slst, len_fz, len_lst, len_form, fInt, fIsA, isA_key, isA_ii, isA_is, isA_ib, isA_ss, wApp, wPar, wAugI, wChain, wYes, wipeE, wSl, woNone, woSome, fTupOf_tup, fTupOf_lst, fTupOf_slst, fTupOf_form, fLstOf, asL_slst, asL_lst, asR_slst, asR_fz, asR_lst, fMax, items_lst, items_fz, items_tup, items_form, items_str, wD0, wSetF, wFld, fields_ins, fields_sins, putFD, wMake, fIsN, fNotN, wDisp, wLc, wDcT, wGet2, isD_dT, isD_sdT, wPut, wForK]
  refine count_ok (n := n) (okGr_ren ok) hv3 sfc c0 hc' (by omega) ?_
  have hr := cnt_ren (sg_sg v) (sg_0 v) rs (lets cs) n
  rw [renF_lets] at hr
  rw [hr]
  simp [fNe_int]
  refine ⟨rs.map ruleD, rfl, law_lcE rs [] (fun r m => okR_rule ok.hal (ok.r r m)) (by simp; omega) fun xs hx => ?_⟩
  have hx' : xs.length = ecount rs := by simpa using hx
  have xl : xs.length ≤ sizeLine := by have := ecount_le rs; have := size_big; omega
  simp [wDef, env0, wEnds, wSeq, wIfS, wTst, wBin, wUse, wName, wC, wUn, wTup, wLst, waCons, waNil, wAsg, gVar, gTupD_mk, gsCons_mk, gsNil_mk, ex2, ex3, wRet, wRetN, wNext, wNever, wDrop, wFor, wiAny, wiRange1, wiRange2, wiEn, wCall, wNot, wAnd, wOr, wAndV, wOrV, wNotV, wIf, wTru, tru_non, tru_bl, tru_int, val_sh, val_lst, val_dT, val_dK, val_ins, intsD, fBl, fSub, fMul, fFdiv, fMod, fPow, fAddA_int, fAddA_form, fMulA_int, fIxA_rule0, fIxA_rule1, gT_rule, atI_c0, atI_c1, atI_c2, atI_c3, atI_c4, fLen, len_str, len_tup, len_slst, len_fz, len_lst, len_form, fInt, fIsA, isA_key, isA_ii, isA_is, isA_ib, isA_ss, wApp, wPar, wAugI, wChain, wYes, wipeE, wSl, woNone, woSome, fTupOf_tup, fTupOf_lst, fTupOf_slst, fTupOf_form, fLstOf, asL_slst, asL_lst, asR_slst, asR_fz, asR_lst, fMax, items_lst, items_fz, items_tup, items_form, items_str, wD0, wSetF, wFld, fields_ins, fields_sins, putFD, wMake, fIsN, fNotN, wDisp, wLc, wDcT, wGet2, isD_dT, isD_sdT, wPut, wForK, xl]
  refine count_empty_ok ok ?_
  have hp : (0 : Int) < 1 + n := by omega
  simp [hp, hx', fNe_int]
  refine count_empty_ok ok ?_
  simp [fNe_int]
  refine count_ok (n := 0) ok hv3 sfc c0 hc' (by omega) ?_
  have tlen : (txt cs).length = cs.length := by simp [txt, lenStr]
  have tsz : cs.length ≤ sizeLine := by have := size_big; omega
  simp [cnt, fNe_int, wDef, env0, wEnds, wSeq, wIfS, wTst, wBin, wUse, wName, wC, wUn, wTup, wLst, waCons, waNil, wAsg, gVar, gTupD_mk, gsCons_mk, gsNil_mk, ex2, ex3, wRet, wRetN, wNext, wNever, wDrop, wFor, wiAny, wiRange1, wiRange2, wiEn, wCall, wNot, wAnd, wOr, wAndV, wOrV, wNotV, wIf, wTru, tru_non, tru_bl, tru_int, val_sh, val_lst, val_dT, val_dK, val_ins, intsD, fBl, fSub, fMul, fFdiv, fMod, fPow, fAddA_int, fAddA_form, fMulA_int, fIxA_rule0, fIxA_rule1, gT_rule, atI_c0, atI_c1, atI_c2, atI_c3, atI_c4, fLen, len_str, len_tup, len_slst, len_fz, len_lst, len_form, fInt, fIsA, isA_key, isA_ii, isA_is, isA_ib, isA_ss, wApp, wPar, wAugI, wChain, wYes, wipeE, wSl, woNone, woSome, fTupOf_tup, fTupOf_lst, fTupOf_slst, fTupOf_form, fLstOf, asL_slst, asL_lst, asR_slst, asR_fz, asR_lst, fMax, items_lst, items_fz, items_tup, items_form, items_str, wD0, wSetF, wFld, fields_ins, fields_sins, putFD, wMake, fIsN, fNotN, wDisp, wLc, wDcT, wGet2, isD_dT, isD_sdT, wPut, wForK, tlen, tsz]
  by_cases c1 : 1 < cs.length
  · have z2 : (2 : Nat) ≤ sizeLine := by decide
    obtain ⟨d, cs', rfl⟩ : ∃ d cs', cs = d :: cs' := by
      cases cs with
      | nil => simp at c0
      | cons d cs' => exact ⟨d, cs', rfl⟩
    have t0 : ∀ P : OT → Prop, fIxA (.sh (.str (txt (d :: cs')))) (.sh (.int 0)) P = P (.sh (.str ⟨#[d]⟩)) := fun P => by
      rw [txt_at, atI_c0]
      simp [tsz]
      intro _
      simpa using tsz
    have okm := okGr_more (c := d) ok (hc' d (by simp)) (by omega)
    have e0 : ∀ P : OT → Prop, fIxA (.lst [.str (txt al), .int v, .lst (rs0.map ruleD)]) (.sh (.int 0)) P = P (.sh (.str (txt al))) := fun P => by simp [fIxA_lst, atI_c0]
    have e1 : ∀ P : OT → Prop, fIxA (.lst [.str (txt al), .int v, .lst (rs0.map ruleD)]) (.sh (.int 1)) P = P (.sh (.int v)) := fun P => by simp [fIxA_lst, atI_c1]
    have ad : ∀ P : OT → Prop, fAddA (.sh (rulesD rs)) (.lst [D.tup [.tup [.int 0], .tup [(OT.sh (D.str ⟨#[d]⟩)).val]]]) P = P (.lst ((rs ++ [(([.inl 0], [ltr d]) : Rl)]).map ruleD)) := fun P => by
      rw [fAddA_lst (xs := rs.map ruleD) (ys := [ruleD ([.inl 0], [ltr d])]) rfl rfl]
      have e : rs.map ruleD ++ [ruleD ([.inl 0], [ltr d])] = (rs ++ [(([.inl 0], [ltr d]) : Rl)]).map ruleD := by simp
      rw [e]
      have s : (rs.map ruleD).length + [ruleD ([.inl 0], [ltr d])].length ≤ sizeLine := by have := size_big; simp; omega
      simp only [s, true_and]
    rw [if_pos (by omega)]
    simp only [e0, e1, t0, ad, z2, true_and]
    intro a2
    refine init_ok okm.hal okm.hv okm.r (by have := size_big; simp; omega) ?_
    refine counted_ok (okUn_gr okm hv3) (by simp; omega) sfc (by omega) ?_
    refine count_ok (n := n) okm hv3 sfc c0 hc' (by omega) ?_
    rw [fEq_int]
    refine .inr ⟨by simp, ?_⟩
    rw [fGeA_int]
    have := cnt_more rs ([.inl 0], [ltr d]) (lets (d :: cs')) n
    simpa [this] using h
  · rw [if_neg (by omega)]
    exact h
end EW
set_option maxHeartbeats 4000000
/-! k70, plain: the law holds. -/
namespace EW
open PySem PySem.Spec L2 EV
def lawC : WS := (wSeq (wIfS (wTst (wBin fEq (wBin fMod (wUn fInt (wCall φ__law_cell (waCons (wName 0) (waCons (wC (.int 2)) waNil)) [])) (wC (.int 3))) (wC (.int 1)))) (wAsg (wCall φ__law_text (waCons (wBin fIxA (wUse 1) (wC (.int 0))) (waCons (wName 2) (waCons (wBin fAddA (wC (.int 1)) (wBin fMod (wUn fInt (wBin fIxA (wUse 2) (wC (.int 9)))) (wC (.int 3)))) waNil))) []) (gVar 4)) wNext)
      lawTail)
def lawB2 : WS := (wSeq (wAsg (wCall φ__law_text_by (waCons (wLst (waCons (wBin fIxA (wUse 1) (wC (.int 0))) (waCons (wBin fIxA (wUse 1) (wC (.int 1))) (waCons (wName 3) waNil)))) (waCons (wName 2) waNil)) []) (gVar 4))
      lawC)
def lawB : WS := (wSeq (wAsg (wUn fLstOf (wBin fIxA (wUse 1) (wC (.int 2)))) (gVar 3))
      (wSeq (wIfS (wTst (wBin fEq (wBin fIxA (wUse 2) (wC (.int 11))) (wC (.int 1)))) (wApp 3 (wBin fIxA (wUse 3) (wBin fMod (wUn fInt (wBin fIxA (wUse 2) (wC (.int 12)))) (wUn fLen (wUse 3))))) wNext)
      lawB2))
def lawMid : WS := (wSeq (wAsg (wCall φ__law_three (waCons (wCall φ__law_digits (waCons (wCall φ__law_cell (waCons (wName 0) (waCons (wC (.int 0)) waNil)) []) (waCons (wBin fAddA (wLst (waCons (wC (.int 3)) (waCons (wC (.int 3)) (waCons (wC (.int 4)) waNil)))) (wBin fMulA (wLst (waCons (wC (.int 7)) (waCons (wC (.int 6)) (waCons (wC (.int 6)) (waCons (wC (.int 6)) (waCons (wC (.int 5)) waNil)))))) (wC (.int 4)))) waNil)) []) waNil) []) (gVar 1))
      (wSeq (wAsg (wCall φ__law_digits (waCons (wCall φ__law_cell (waCons (wName 0) (waCons (wC (.int 1)) waNil)) []) (waCons (wBin fAddA (wBin fMulA (wLst (waCons (wC (.int 9)) waNil)) (wC (.int 11))) (wLst (waCons (wC (.int 2)) (waCons (wC (.int 9)) (waCons (wC (.int 10)) waNil))))) waNil)) []) (gVar 2))
      lawB))
theorem w_law_eq : w_law = lawMid := rfl
theorem fLstOf_rules {rs : List Rl} {P : OT → Prop} : fLstOf (.sh (rulesD rs)) P = P (.lst (rs.map ruleD)) := by simp [fLstOf, rulesD, OT.asR]
theorem RowOk.at {row ss : List Int} (h : RowOk row ss) : ∀ (i : Nat) (s : Int), ss[i]? = some s → ∃ r, row[i]? = some r ∧ 0 ≤ r ∧ r < s := by
  induction h with
  | nil => intro i s e; simp at e
  | cons a b t ih =>
    intro i s e
    cases i with
    | zero => simp at e; subst e; exact ⟨_, rfl, a, b⟩
    | succ i => exact ih i s (by simpa using e)
theorem row_at {row : List Int} {i : Nat} {r : Int} (h : row[i]? = some r) : atI (intsL row) (i : Int) = some (.int r) := by
  rw [intsL, atI_map, EV.atI_nat, h]
  rfl
theorem lawC_ok {ns : List Int} {al : List Nat} {v : Int} {rs0 rs : List Rl} {row : List Int} {cs : List Nat} {P : OT → Prop} (hl : ns.length ≤ sizeLine) (ok : okGr (txt al) v rs) (hv : v = 2 ∨ v = 3) (hn : rs.length ≤ 10) (hrow : RowOk row sizes2) (c0 : 0 < cs.length) (c3 : cs.length ≤ 3) (hc : ∀ c ∈ cs, c ∈ al) (h : P (.sh (.bl true))) :
    lawC (wEnds P) [some (.sh (.fz (intsL ns))), some (.lst [.str (txt al), .int v, rulesD rs0]), some (.sh (.lst (intsL row))), some (.sh (rulesD rs)), some (.sh (.str (txt cs))), none, none, none, none, none, none, none, none, none, none] := by
  have lrow : row.length = 14 := hrow.length
  obtain ⟨r9, e9, p9, q9⟩ := hrow.at 9 9 rfl
  obtain ⟨r13, e13, p13, q13⟩ := hrow.at 13 10 rfl
  have tl : (txt al).cps.toList = al := by simp [txt]
  have al0 : 0 < al.length ∧ al.length ≤ 100 := by
    rcases ok.hal with e | e
    · have : al = [97, 98] := by rw [← tl, e]; rfl
      rw [this]; decide
    · have : al = [97] := by rw [← tl, e]; rfl
      rw [this]; decide
  obtain ⟨n, rfl⟩ : ∃ n : Nat, r13 = (n : Int) := ⟨r13.toNat, by omega⟩
  have h13 : atI (intsL row) 13 = some (.int (n : Nat)) := row_at e13
  have fin := fun (cs : List Nat) (c0 : 0 < cs.length) (c3 : cs.length ≤ 3) (hc : ∀ c ∈ cs, c ∈ al) => tail_ok (S := .sh (.fz (intsL ns))) (rs0 := rs0) (x5 := none) (x6 := none) (x7 := none) (x8 := none) (x9 := none) (x10 := none) (x11 := none) (x12 := none) (x13 := none) (x14 := none) ok hv hn c0 c3 hc h13 (by omega) h
  have d0 : ∀ P : OT → Prop, fIxA (.lst [.str (txt al), .int v, rulesD rs0]) (.sh (.int 0)) P = P (.sh (.str (txt al))) := fun P => by simp [fIxA_lst, atI_c0]
  have i9 : ∀ P : OT → Prop, fIxA (.sh (.lst (intsL row))) (.sh (.int 9)) P = P (.sh (.int r9)) := fun P => by
    have := row_at e9
    rw [fIxA_slst, show (9 : Int) = ((9 : Nat) : Int) from rfl, this]
    simp
  simp only [lawC]
  simp [wDef, env0, wEnds, wSeq, wIfS, wTst, wBin, wUse, wName, wC, wUn, wTup, wLst, waCons, waNil, wAsg, gVar, gTupD_mk, gsCons_mk, gsNil_mk, ex2, ex3, wRet, wRetN, wNext, wNever, wDrop, wFor, wiAny, wiRange1, wiRange2, wiEn, wCall, wNot, wAnd, wOr, wAndV, wOrV, wNotV, wIf, wTru, tru_non, tru_bl, tru_int, val_sh, val_lst, val_dT, val_dK, val_ins, intsD, fBl, fSub, fMul, fFdiv, fMod, fPow, fAddA_int, fAddA_form, fMulA_int, fIxA_rule0, fIxA_rule1, gT_rule, atI_c0, atI_c1, atI_c2, atI_c3, atI_c4, fLen, len_str, len_tup, len_slst, len_fz, len_lst, len_form, fInt, fIsA, isA_key, isA_ii, isA_is, isA_ib, isA_ss, wApp, wPar, wAugI, wChain, wYes, wipeE, wSl, woNone, woSome, fTupOf_tup, fTupOf_lst, fTupOf_slst, fTupOf_form, fLstOf, asL_slst, asL_lst, asR_slst, asR_fz, asR_lst, fMax, items_lst, items_fz, items_tup, items_form, items_str, wD0, wSetF, wFld, fields_ins, fields_sins, putFD, wMake, fIsN, fNotN, wDisp, wLc, wDcT, wGet2, isD_dT, isD_sdT, wPut, wForK]
  refine cell_ok2 hl fun c2 => ?_
  simp [fEq_int]
  by_cases c : c2.fmod 3 = 1
  · simp [c, d0, i9]
    have m0 := Int.fmod_nonneg_of_pos r9 (show (0 : Int) < 3 by decide)
    have m1 := Int.fmod_lt_of_pos r9 (show (0 : Int) < 3 by decide)
    obtain ⟨k, hk⟩ : ∃ k : Nat, r9.fmod 3 + 1 = (k : Int) := ⟨(r9.fmod 3 + 1).toNat, by omega⟩
    rw [show (1 : Int) + r9.fmod 3 = (k : Int) by omega]
    refine law_text_ok al0.1 al0.2 (by omega) (by omega) fun cs' h1 h2 => ?_
    exact fin cs' (by omega) (by omega) h2
  · simp [c]
    exact fin cs c0 c3 hc
theorem lawB_ok {ns : List Int} {al : List Nat} {v : Int} {rs0 : List Rl} {row : List Int} {P : OT → Prop} (hl : ns.length ≤ sizeLine) (hd : okDrawn al v rs0) (hrow : RowOk row sizes2) (h : P (.sh (.bl true))) :
    lawB (wEnds P) [some (.sh (.fz (intsL ns))), some (.lst [.str (txt al), .int v, rulesD rs0]), some (.lst (intsL row)), none, none, none, none, none, none, none, none, none, none, none, none] := by
  have lrow : row.length = 14 := hrow.length
  obtain ⟨r11, e11, p11, q11⟩ := hrow.at 11 2 rfl
  obtain ⟨r12, e12, p12, q12⟩ := hrow.at 12 9 rfl
  have ok0 := okGr_drawn hd
  have n9 := hd.n
  have d2 : ∀ P : OT → Prop, fIxA (.lst [.str (txt al), .int v, rulesD rs0]) (.sh (.int 2)) P = P (.sh (rulesD rs0)) := fun P => by simp [fIxA_lst, atI_c2]
  have d0 : ∀ P : OT → Prop, fIxA (.lst [.str (txt al), .int v, rulesD rs0]) (.sh (.int 0)) P = P (.sh (.str (txt al))) := fun P => by simp [fIxA_lst, atI_c0]
  have d1 : ∀ P : OT → Prop, fIxA (.lst [.str (txt al), .int v, rulesD rs0]) (.sh (.int 1)) P = P (.sh (.int v)) := fun P => by simp [fIxA_lst, atI_c1]
  have i11 : ∀ P : OT → Prop, fIxA (.lst (intsL row)) (.sh (.int 11)) P = P (.sh (.int r11)) := fun P => by
    have := row_at e11
    rw [fIxA_lst, show (11 : Int) = ((11 : Nat) : Int) from rfl, this]
    simp
  have i12 : ∀ P : OT → Prop, fIxA (.lst (intsL row)) (.sh (.int 12)) P = P (.sh (.int r12)) := fun P => by
    have := row_at e12
    rw [fIxA_lst, show (12 : Int) = ((12 : Nat) : Int) from rfl, this]
    simp
  have z3 : (3 : Nat) ≤ sizeLine := by decide
  have fin : ∀ rs : List Rl, okGr (txt al) v rs → rs.length ≤ 10 → lawB2 (wEnds P) [some (.sh (.fz (intsL ns))), some (.lst [.str (txt al), .int v, rulesD rs0]), some (.lst (intsL row)), some (.lst (rs.map ruleD)), none, none, none, none, none, none, none, none, none, none, none] := fun rs ok hn => by
    simp only [lawB2]
    simp [wDef, env0, wEnds, wSeq, wIfS, wTst, wBin, wUse, wName, wC, wUn, wTup, wLst, waCons, waNil, wAsg, gVar, gTupD_mk, gsCons_mk, gsNil_mk, ex2, ex3, wRet, wRetN, wNext, wNever, wDrop, wFor, wiAny, wiRange1, wiRange2, wiEn, wCall, wNot, wAnd, wOr, wAndV, wOrV, wNotV, wIf, wTru, tru_non, tru_bl, tru_int, val_sh, val_lst, val_dT, val_dK, val_ins, intsD, fBl, fSub, fMul, fFdiv, fMod, fPow, fAddA_int, fAddA_form, fMulA_int, fIxA_rule0, fIxA_rule1, gT_rule, atI_c0, atI_c1, atI_c2, atI_c3, atI_c4, fLen, len_str, len_tup, len_slst, len_fz, len_lst, len_form, fInt, fIsA, isA_key, isA_ii, isA_is, isA_ib, isA_ss, wApp, wPar, wAugI, wChain, wYes, wipeE, wSl, woNone, woSome, fTupOf_tup, fTupOf_lst, fTupOf_slst, fTupOf_form, fLstOf, asL_slst, asL_lst, asR_slst, asR_fz, asR_lst, fMax, items_lst, items_fz, items_tup, items_form, items_str, wD0, wSetF, wFld, fields_ins, fields_sins, putFD, wMake, fIsN, fNotN, wDisp, wLc, wDcT, wGet2, isD_dT, isD_sdT, wPut, wForK, d0, d1, z3]
    refine text_by_ok (rs := rs) ok.hal ok.r (by have := hd.hv; omega) (by omega) (by omega) fun cs h1 h2 h3 => ?_
    exact lawC_ok hl ok hd.hv hn hrow h1 h2 h3 h
  simp only [lawB]
  simp [wDef, env0, wEnds, wSeq, wIfS, wTst, wBin, wUse, wName, wC, wUn, wTup, wLst, waCons, waNil, wAsg, gVar, gTupD_mk, gsCons_mk, gsNil_mk, ex2, ex3, wRet, wRetN, wNext, wNever, wDrop, wFor, wiAny, wiRange1, wiRange2, wiEn, wCall, wNot, wAnd, wOr, wAndV, wOrV, wNotV, wIf, wTru, tru_non, tru_bl, tru_int, val_sh, val_lst, val_dT, val_dK, val_ins, intsD, fBl, fSub, fMul, fFdiv, fMod, fPow, fAddA_int, fAddA_form, fMulA_int, fIxA_rule0, fIxA_rule1, gT_rule, atI_c0, atI_c1, atI_c2, atI_c3, atI_c4, fLen, len_str, len_tup, len_slst, len_fz, len_lst, len_form, fInt, fIsA, isA_key, isA_ii, isA_is, isA_ib, isA_ss, wApp, wPar, wAugI, wChain, wYes, wipeE, wSl, woNone, woSome, fTupOf_tup, fTupOf_lst, fTupOf_slst, fTupOf_form, fLstOf, asL_slst, asL_lst, asR_slst, asR_fz, asR_lst, fMax, items_lst, items_fz, items_tup, items_form, items_str, wD0, wSetF, wFld, fields_ins, fields_sins, putFD, wMake, fIsN, fNotN, wDisp, wLc, wDcT, wGet2, isD_dT, isD_sdT, wPut, wForK, d2, fLstOf_rules, i11, i12, fEq_int]
  have sz : rs0.length ≤ sizeLine := by have := size_big; omega
  have sz2 : rs0.length < sizeLine := by have := size_big; omega
  have pz := hd.p
  have ne : ¬ (rs0.length : Int) = 0 := by omega
  have ne2 : ¬ rs0 = [] := fun z => by rw [z] at pz; simp at pz
  have pz' : (0 : Int) < rs0.length := by omega
  obtain ⟨r, a, b⟩ := atI_lt rs0 (Int.fmod_nonneg_of_pos r12 pz') (Int.fmod_lt_of_pos r12 pz')
  have ra : ∀ P : OT → Prop, fIxA (.lst (rs0.map ruleD)) (.sh (.int (r12.fmod rs0.length))) P = P (.sh (ruleD r)) := fun P => by
    rw [fIxA_lst, atI_map, a]; simp
  by_cases c : r11 = 1
  · have q := fin (rs0 ++ [r]) (okGr_twice ok0 (List.mem_of_getElem? b) (by omega)) (by simp; omega)
    simp [c]
    refine .inl ⟨rs0.map ruleD, rfl, by rw [List.length_map]; exact sz, by simpa using ne2, ?_⟩
    rw [List.length_map, ra]
    refine ⟨sz2, ?_⟩
    simpa [wEnds, val_sh] using q
  · simp [c]
    exact .inl ⟨_, rfl, fin rs0 ok0 (by omega)⟩
theorem law_ok {ns : List Int} {P : OT → Prop} (hl : ns.length ≤ sizeLine) (h : P (.sh (.bl true))) : φ_law [.fz (intsL ns)] P := by
  have z0 : (1 : Nat) ≤ sizeLine := by decide
  have z3 : (3 : Nat) ≤ sizeLine := by decide
  have z5 : (5 : Nat) ≤ sizeLine := by decide
  have m1 : ∀ P : OT → Prop, fMulA (.lst [.int 7, .int 6, .int 6, .int 6, .int 5]) (.sh (.int 4)) P = P (.lst (intsL [7, 6, 6, 6, 5, 7, 6, 6, 6, 5, 7, 6, 6, 6, 5, 7, 6, 6, 6, 5])) := fun P => by
    rw [fMulA_rep]
    have c : (20 : Nat) ≤ sizeLine := by decide
    simp [c, intsL]
  have m2 : ∀ P : OT → Prop, fMulA (.lst [.int 9]) (.sh (.int 11)) P = P (.lst (intsL [9, 9, 9, 9, 9, 9, 9, 9, 9, 9, 9])) := fun P => by
    rw [fMulA_rep]
    have c : (11 : Nat) ≤ sizeLine := by decide
    simp [c, intsL]
  have a1 : ∀ P : OT → Prop, fAddA (.lst [.int 3, .int 3, .int 4]) (.lst (intsL [7, 6, 6, 6, 5, 7, 6, 6, 6, 5, 7, 6, 6, 6, 5, 7, 6, 6, 6, 5])) P = P (.lst (intsL allSizes)) := fun P => by
    rw [fAddA_lst (xs := [.int 3, .int 3, .int 4]) (ys := intsL [7, 6, 6, 6, 5, 7, 6, 6, 6, 5, 7, 6, 6, 6, 5, 7, 6, 6, 6, 5]) rfl rfl]
    have c : ([D.int 3, .int 3, .int 4].length + (intsL [7, 6, 6, 6, 5, 7, 6, 6, 6, 5, 7, 6, 6, 6, 5, 7, 6, 6, 6, 5]).length) ≤ sizeLine := by decide
    simp only [c, true_and]
    rfl
  have a2 : ∀ P : OT → Prop, fAddA (.lst (intsL [9, 9, 9, 9, 9, 9, 9, 9, 9, 9, 9])) (.lst [.int 2, .int 9, .int 10]) P = P (.lst (intsL sizes2)) := fun P => by
    rw [fAddA_lst (xs := intsL [9, 9, 9, 9, 9, 9, 9, 9, 9, 9, 9]) (ys := [.int 2, .int 9, .int 10]) rfl rfl]
    have c : ((intsL [9, 9, 9, 9, 9, 9, 9, 9, 9, 9, 9]).length + [D.int 2, .int 9, .int 10].length) ≤ sizeLine := by decide
    simp only [c, true_and]
    rfl
  unfold φ_law wDef
  rw [w_law_eq]
  simp only [lawMid]
  simp [wDef, env0, wEnds, wSeq, wIfS, wTst, wBin, wUse, wName, wC, wUn, wTup, wLst, waCons, waNil, wAsg, gVar, gTupD_mk, gsCons_mk, gsNil_mk, ex2, ex3, wRet, wRetN, wNext, wNever, wDrop, wFor, wiAny, wiRange1, wiRange2, wiEn, wCall, wNot, wAnd, wOr, wAndV, wOrV, wNotV, wIf, wTru, tru_non, tru_bl, tru_int, val_sh, val_lst, val_dT, val_dK, val_ins, intsD, fBl, fSub, fMul, fFdiv, fMod, fPow, fAddA_int, fAddA_form, fMulA_int, fIxA_rule0, fIxA_rule1, gT_rule, atI_c0, atI_c1, atI_c2, atI_c3, atI_c4, fLen, len_str, len_tup, len_slst, len_fz, len_lst, len_form, fInt, fIsA, isA_key, isA_ii, isA_is, isA_ib, isA_ss, wApp, wPar, wAugI, wChain, wYes, wipeE, wSl, woNone, woSome, fTupOf_tup, fTupOf_lst, fTupOf_slst, fTupOf_form, fLstOf, asL_slst, asL_lst, asR_slst, asR_fz, asR_lst, fMax, items_lst, items_fz, items_tup, items_form, items_str, wD0, wSetF, wFld, fields_ins, fields_sins, putFD, wMake, fIsN, fNotN, wDisp, wLc, wDcT, wGet2, isD_dT, isD_sdT, wPut, wForK, N_law, m1, a1, z3, z5, z0]
  refine cell_ok0 hl fun c => ?_
  simp [m1, a1, wDef, env0, wEnds, wSeq, wIfS, wTst, wBin, wUse, wName, wC, wUn, wTup, wLst, waCons, waNil, wAsg, gVar, gTupD_mk, gsCons_mk, gsNil_mk, ex2, ex3, wRet, wRetN, wNext, wNever, wDrop, wFor, wiAny, wiRange1, wiRange2, wiEn, wCall, wNot, wAnd, wOr, wAndV, wOrV, wNotV, wIf, wTru, tru_non, tru_bl, tru_int, val_sh, val_lst, val_dT, val_dK, val_ins, intsD, fBl, fSub, fMul, fFdiv, fMod, fPow, fAddA_int, fAddA_form, fMulA_int, fIxA_rule0, fIxA_rule1, gT_rule, atI_c0, atI_c1, atI_c2, atI_c3, atI_c4, fLen, len_str, len_tup, len_slst, len_fz, len_lst, len_form, fInt, fIsA, isA_key, isA_ii, isA_is, isA_ib, isA_ss, wApp, wPar, wAugI, wChain, wYes, wipeE, wSl, woNone, woSome, fTupOf_tup, fTupOf_lst, fTupOf_slst, fTupOf_form, fLstOf, asL_slst, asL_lst, asR_slst, asR_fz, asR_lst, fMax, items_lst, items_fz, items_tup, items_form, items_str, wD0, wSetF, wFld, fields_ins, fields_sins, putFD, wMake, fIsN, fNotN, wDisp, wLc, wDcT, wGet2, isD_dT, isD_sdT, wPut, wForK, z3]
  refine digits_ok (by decide) (by decide) fun drow hdr => ?_
  try simp [wDef, env0, wEnds, wSeq, wIfS, wTst, wBin, wUse, wName, wC, wUn, wTup, wLst, waCons, waNil, wAsg, gVar, gTupD_mk, gsCons_mk, gsNil_mk, ex2, ex3, wRet, wRetN, wNext, wNever, wDrop, wFor, wiAny, wiRange1, wiRange2, wiEn, wCall, wNot, wAnd, wOr, wAndV, wOrV, wNotV, wIf, wTru, tru_non, tru_bl, tru_int, val_sh, val_lst, val_dT, val_dK, val_ins, intsD, fBl, fSub, fMul, fFdiv, fMod, fPow, fAddA_int, fAddA_form, fMulA_int, fIxA_rule0, fIxA_rule1, gT_rule, atI_c0, atI_c1, atI_c2, atI_c3, atI_c4, fLen, len_str, len_tup, len_slst, len_fz, len_lst, len_form, fInt, fIsA, isA_key, isA_ii, isA_is, isA_ib, isA_ss, wApp, wPar, wAugI, wChain, wYes, wipeE, wSl, woNone, woSome, fTupOf_tup, fTupOf_lst, fTupOf_slst, fTupOf_form, fLstOf, asL_slst, asL_lst, asR_slst, asR_fz, asR_lst, fMax, items_lst, items_fz, items_tup, items_form, items_str, wD0, wSetF, wFld, fields_ins, fields_sins, putFD, wMake, fIsN, fNotN, wDisp, wLc, wDcT, wGet2, isD_dT, isD_sdT, wPut, wForK]
  refine three_ok hdr fun al v rs0 hd => ?_
  try simp [wDef, env0, wEnds, wSeq, wIfS, wTst, wBin, wUse, wName, wC, wUn, wTup, wLst, waCons, waNil, wAsg, gVar, gTupD_mk, gsCons_mk, gsNil_mk, ex2, ex3, wRet, wRetN, wNext, wNever, wDrop, wFor, wiAny, wiRange1, wiRange2, wiEn, wCall, wNot, wAnd, wOr, wAndV, wOrV, wNotV, wIf, wTru, tru_non, tru_bl, tru_int, val_sh, val_lst, val_dT, val_dK, val_ins, intsD, fBl, fSub, fMul, fFdiv, fMod, fPow, fAddA_int, fAddA_form, fMulA_int, fIxA_rule0, fIxA_rule1, gT_rule, atI_c0, atI_c1, atI_c2, atI_c3, atI_c4, fLen, len_str, len_tup, len_slst, len_fz, len_lst, len_form, fInt, fIsA, isA_key, isA_ii, isA_is, isA_ib, isA_ss, wApp, wPar, wAugI, wChain, wYes, wipeE, wSl, woNone, woSome, fTupOf_tup, fTupOf_lst, fTupOf_slst, fTupOf_form, fLstOf, asL_slst, asL_lst, asR_slst, asR_fz, asR_lst, fMax, items_lst, items_fz, items_tup, items_form, items_str, wD0, wSetF, wFld, fields_ins, fields_sins, putFD, wMake, fIsN, fNotN, wDisp, wLc, wDcT, wGet2, isD_dT, isD_sdT, wPut, wForK]
  refine cell_ok1 hl fun c1 => ?_
  simp [m2, a2, wDef, env0, wEnds, wSeq, wIfS, wTst, wBin, wUse, wName, wC, wUn, wTup, wLst, waCons, waNil, wAsg, gVar, gTupD_mk, gsCons_mk, gsNil_mk, ex2, ex3, wRet, wRetN, wNext, wNever, wDrop, wFor, wiAny, wiRange1, wiRange2, wiEn, wCall, wNot, wAnd, wOr, wAndV, wOrV, wNotV, wIf, wTru, tru_non, tru_bl, tru_int, val_sh, val_lst, val_dT, val_dK, val_ins, intsD, fBl, fSub, fMul, fFdiv, fMod, fPow, fAddA_int, fAddA_form, fMulA_int, fIxA_rule0, fIxA_rule1, gT_rule, atI_c0, atI_c1, atI_c2, atI_c3, atI_c4, fLen, len_str, len_tup, len_slst, len_fz, len_lst, len_form, fInt, fIsA, isA_key, isA_ii, isA_is, isA_ib, isA_ss, wApp, wPar, wAugI, wChain, wYes, wipeE, wSl, woNone, woSome, fTupOf_tup, fTupOf_lst, fTupOf_slst, fTupOf_form, fLstOf, asL_slst, asL_lst, asR_slst, asR_fz, asR_lst, fMax, items_lst, items_fz, items_tup, items_form, items_str, wD0, wSetF, wFld, fields_ins, fields_sins, putFD, wMake, fIsN, fNotN, wDisp, wLc, wDcT, wGet2, isD_dT, isD_sdT, wPut, wForK, z3]
  refine digits_ok (by decide) (by decide) fun row hrow => ?_
  exact lawB_ok hl hd hrow h
end EW

set_option maxHeartbeats 4000000
namespace EZ
open PySem PySem.Spec L2 EV EW HeadT
def spLaw (K : PySem.W.Frag) : Sp := fun vs H Q _ => ∃ (a : Addr) (ns : List Int), vs = [.ref a] ∧ ns.length ≤ sizeLine ∧ SqL K H a (ns.map V.int) ∧ ∀ H', Q (.bl true) H'
theorem reps_ints {K : PySem.W.Frag} {H : Hp} {G : List Addr} : ∀ ns : List Int, Reps K H G (intsL ns) (ns.map V.int)
  | [] => .nil
  | n :: ns => .cons (.int n) (reps_ints ns)
theorem sp_law {K : PySem.W.Frag} (vs : List V) (H : Hp) (Q : VK) (E : XK) (h : spLaw K vs H Q E) : spD K 1 φ_law vs H Q E := by
  obtain ⟨a, ns, rfl, hl, hs, hq⟩ := h
  refine ⟨[], [.fz (intsL ns)], fun _ m => (nomatch m), .cons (.fz ?_ (reps_ints ns)) .nil, rfl, law_ok hl fun v H' Od r => ?_⟩
  · exact hs.elim (fun q => .inl ⟨q, fun m => nomatch m⟩) .inr
  · have e := r.rep.bl
    rw [e]
    exact hq H'
section
variable {P : Program} {w : World} {K : PySem.W.Frag} {h : Heap} {mg : Str → Option Value}
theorem gs (X : K.In h) (G : h.Ns mainGlobals mg) (c : He.SaysD fa fn K) (hex : ex K = true) : Gs K mg where
  b_bool := He.free_ok X G (c.fact 40 (f := .free "bool") rfl)
  b_enumerate := He.free_ok X G (c.fact 41 (f := .free "enumerate") rfl)
  b_int := He.free_ok X G (c.fact 42 (f := .free "int") rfl)
  b_isinstance := He.free_ok X G (c.fact 43 (f := .free "isinstance") rfl)
  b_len := He.free_ok X G (c.fact 44 (f := .free "len") rfl)
  b_list := He.free_ok X G (c.fact 45 (f := .free "list") rfl)
  b_max := He.free_ok X G (c.fact 46 (f := .free "max") rfl)
  b_range := He.free_ok X G (c.fact 47 (f := .free "range") rfl)
  b_str := He.free_ok X G (c.fact 48 (f := .free "str") rfl)
  b_tuple := He.free_ok X G (c.fact 49 (f := .free "tuple") rfl)
  c_LETTERS := (He.str_ok X G (c.fact 50 (f := .str "LETTERS" "abcdefghijklmnopqrstuvwxyz") rfl)).elim fun t e => ⟨_, e, t, rfl⟩
  c_START_FORM := ⟨_, He.glo_ok X G (c.fact 51 (f := .glo "START_FORM") rfl), rfl⟩
  s_START_FORM := static_of hex
  F_alphabet := List.forall_mem_cons.mpr ⟨fldOk (c.fact 52 (f := .cls "Grammar") rfl) (c.fact 54 (f := .noat "Grammar" "alphabet") rfl), List.forall_mem_nil _⟩
  F_variables := List.forall_mem_cons.mpr ⟨fldOk (c.fact 52 (f := .cls "Grammar") rfl) (c.fact 55 (f := .noat "Grammar" "variables") rfl), List.forall_mem_nil _⟩
  F_rules := List.forall_mem_cons.mpr ⟨fldOk (c.fact 52 (f := .cls "Grammar") rfl) (c.fact 56 (f := .noat "Grammar" "rules") rfl), List.forall_mem_nil _⟩
  m_Grammar := He.mkr_ok (c.fact 53 (f := .mkr "Grammar") rfl)
  g_Grammar := He.glo_ok X G (c.fact 17 (f := .glo "Grammar") rfl)
theorem facts {f : Addr} (X : K.In h) (G : h.Ns mainGlobals mg) (hfa : mg ("law" : Str) = some (.ref f)) (c : He.SaysD fa fn K) (hex : ex K = true) :
    ∃ fd : FuncData, (∀ (s : Shared) (v : Value), BindsTo s fd ⟨[v], []⟩ [("script", v)]) ∧ ∀ base : Heap, K.In base → base.Ns mainGlobals mg → FnOk P w K mg base CX0 7 f fd ["script"] (spLaw K) := by
  have gg := gs X G c hex
  obtain ⟨fd34, D34⟩ := c.def_ 34 (d := d34) rfl
  obtain ⟨fd31, D31⟩ := c.def_ 31 (d := d31) rfl
  obtain ⟨fd32, D32⟩ := c.def_ 32 (d := d32) rfl
  obtain ⟨fd33, D33⟩ := c.def_ 33 (d := d33) rfl
  obtain ⟨fd37, D37⟩ := c.def_ 37 (d := d37) rfl
  obtain ⟨fd9, D9⟩ := c.def_ 9 (d := d9) rfl
  obtain ⟨fd10, D10⟩ := c.def_ 10 (d := d10) rfl
  obtain ⟨fd13, D13⟩ := c.def_ 13 (d := d13) rfl
  obtain ⟨fd8, D8⟩ := c.def_ 8 (d := d8) rfl
  obtain ⟨fd14, D14⟩ := c.def_ 14 (d := d14) rfl
  obtain ⟨fd15, D15⟩ := c.def_ 15 (d := d15) rfl
  obtain ⟨fd16, D16⟩ := c.def_ 16 (d := d16) rfl
  obtain ⟨fd35, D35⟩ := c.def_ 35 (d := d35) rfl
  obtain ⟨fd38, D38⟩ := c.def_ 38 (d := d38) rfl
  obtain ⟨fd18, D18⟩ := c.def_ 18 (d := d18) rfl
  obtain ⟨fd19, D19⟩ := c.def_ 19 (d := d19) rfl
  obtain ⟨fd20, D20⟩ := c.def_ 20 (d := d20) rfl
  obtain ⟨fd21, D21⟩ := c.def_ 21 (d := d21) rfl
  obtain ⟨fd11, D11⟩ := c.def_ 11 (d := d11) rfl
  obtain ⟨fd12, D12⟩ := c.def_ 12 (d := d12) rfl
  obtain ⟨fd22, D22⟩ := c.def_ 22 (d := d22) rfl
  obtain ⟨fd24, D24⟩ := c.def_ 24 (d := d24) rfl
  obtain ⟨fd23, D23⟩ := c.def_ 23 (d := d23) rfl
  obtain ⟨fd25, D25⟩ := c.def_ 25 (d := d25) rfl
  obtain ⟨fd30, D30⟩ := c.def_ 30 (d := d30) rfl
  obtain ⟨fd29, D29⟩ := c.def_ 29 (d := d29) rfl
  obtain ⟨fd26, D26⟩ := c.def_ 26 (d := d26) rfl
  obtain ⟨fd27, D27⟩ := c.def_ 27 (d := d27) rfl
  obtain ⟨fd28, D28⟩ := c.def_ 28 (d := d28) rfl
  obtain ⟨fd39, D39⟩ := c.def_ 39 (d := d39) rfl
  have e := hfa.symm.trans (He.glo_ok X G (c.fact 39 (f := .glo "law") rfl))
  cases e
  have b := FunD.bindsA (ps := ["script"]) D39 fun _ _ _ _ _ _ us hl => match us, hl with | [_], _ => rfl
  refine ⟨fd39, fun s v => b s [v] rfl, fun base _ _ => ?_⟩
  have F__law_three := fn__law_three (P := P) (w := w) (base := base) gg  D34 (He.glo_ok X G (c.fact 34 (f := .glo "_law_three") rfl))
  have F__law_digits := fn__law_digits (P := P) (w := w) (base := base) gg  D31 (He.glo_ok X G (c.fact 31 (f := .glo "_law_digits") rfl))
  have F__law_text := fn__law_text (P := P) (w := w) (base := base) gg  D32 (He.glo_ok X G (c.fact 32 (f := .glo "_law_text") rfl))
  have F__law_rewrite := fn__law_rewrite (P := P) (w := w) (base := base) gg  D33 (He.glo_ok X G (c.fact 33 (f := .glo "_law_rewrite") rfl))
  have F__law_text_by := fn__law_text_by (P := P) (w := w) (base := base) gg F__law_text F__law_rewrite D37 (He.glo_ok X G (c.fact 37 (f := .glo "_law_text_by") rfl))
  have F_is_alphabet := fn_is_alphabet (P := P) (w := w) (base := base) gg  D9 (He.glo_ok X G (c.fact 10 (f := .glo "is_alphabet") rfl))
  have F_check_alphabet := fn_check_alphabet (P := P) (w := w) (base := base) gg F_is_alphabet D10 (He.glo_ok X G (c.fact 11 (f := .glo "check_alphabet") rfl))
  have F_is_variable := fn_is_variable (P := P) (w := w) (base := base) gg  D13 (He.glo_ok X G (c.fact 14 (f := .glo "is_variable") rfl))
  have F_is_whole := fn_is_whole (P := P) (w := w) (base := base) gg  D8 (He.glo_ok X G (c.fact 9 (f := .glo "is_whole") rfl))
  have F_is_symbol := fn_is_symbol (P := P) (w := w) (base := base) gg F_is_whole D14 (He.glo_ok X G (c.fact 15 (f := .glo "is_symbol") rfl))
  have F_is_rule := fn_is_rule (P := P) (w := w) (base := base) gg F_is_variable F_is_symbol D15 (He.glo_ok X G (c.fact 16 (f := .glo "is_rule") rfl))
  have F_Grammar_init := fn_Grammar_init (P := P) (w := w) (base := base) gg F_check_alphabet F_is_rule D16
  have F__law_befores := fn__law_befores (P := P) (w := w) (base := base) gg  D35 (He.glo_ok X G (c.fact 35 (f := .glo "_law_befores") rfl))
  have F__law_counted_rows := fn__law_counted_rows (P := P) (w := w) (base := base) gg F__law_befores D38 (He.glo_ok X G (c.fact 38 (f := .glo "_law_counted_rows") rfl))
  have F_start_is_brought := fn_start_is_brought (P := P) (w := w) (base := base) gg F_is_variable D18 (He.glo_ok X G (c.fact 18 (f := .glo "start_is_brought") rfl))
  have F_is_of_kind := fn_is_of_kind (P := P) (w := w) (base := base) gg F_is_variable D19 (He.glo_ok X G (c.fact 19 (f := .glo "is_of_kind") rfl))
  have F_breaking_rule := fn_breaking_rule (P := P) (w := w) (base := base) gg F_start_is_brought F_is_of_kind D20 (He.glo_ok X G (c.fact 20 (f := .glo "breaking_rule") rfl))
  have F_check_kind := fn_check_kind (P := P) (w := w) (base := base) gg F_breaking_rule D21 (He.glo_ok X G (c.fact 21 (f := .glo "check_kind") rfl))
  have F_first_stranger := fn_first_stranger (P := P) (w := w) (base := base) gg  D11 (He.glo_ok X G (c.fact 12 (f := .glo "first_stranger") rfl))
  have F_check_text := fn_check_text (P := P) (w := w) (base := base) gg F_check_alphabet F_first_stranger D12 (He.glo_ok X G (c.fact 13 (f := .glo "check_text") rfl))
  have F_undoings_of := fn_undoings_of (P := P) (w := w) (base := base) gg  D22 (He.glo_ok X G (c.fact 22 (f := .glo "undoings_of") rfl))
  have F_found_origins := fn_found_origins (P := P) (w := w) (base := base) gg F_undoings_of D24 (He.glo_ok X G (c.fact 24 (f := .glo "found_origins") rfl))
  have F_empty_rules := fn_empty_rules (P := P) (w := w) (base := base) gg  D23 (He.glo_ok X G (c.fact 23 (f := .glo "empty_rules") rfl))
  have F_count_derivations := fn_count_derivations (P := P) (w := w) (base := base) gg F_check_kind F_check_text F_found_origins F_empty_rules F_undoings_of D25 (He.glo_ok X G (c.fact 25 (f := .glo "count_derivations") rfl))
  have F__law_cell := fn__law_cell (P := P) (w := w) (base := base) gg  D30 (He.glo_ok X G (c.fact 30 (f := .glo "_law_cell") rfl))
  have F__law_whole := fn__law_whole (P := P) (w := w) (base := base) gg  D29 (He.glo_ok X G (c.fact 29 (f := .glo "_law_whole") rfl))
  have F_check_order := fn_check_order (P := P) (w := w) (base := base) gg F_is_whole D26 (He.glo_ok X G (c.fact 26 (f := .glo "check_order") rfl))
  have F_renamed_symbols := fn_renamed_symbols (P := P) (w := w) (base := base) gg F_is_variable D27 (He.glo_ok X G (c.fact 27 (f := .glo "renamed_symbols") rfl))
  have F_renamed := fn_renamed (P := P) (w := w) (base := base) gg F_check_order F_Grammar_init F_renamed_symbols D28 (He.glo_ok X G (c.fact 28 (f := .glo "renamed") rfl))
  have o : FnOk P w K mg base CX0 7 _ fd39 ["script"] (spD K 1 φ_law) := FnD.ok D39 sc_law rfl (fun cdv A outer s H E hr => xs_law gg F__law_three F__law_digits F__law_text_by F_Grammar_init F__law_counted_rows F_count_derivations F__law_cell F__law_text F__law_whole F_renamed _ cdv A outer s H E hr)
  exact o.imp sp_law
end
end EZ
open PySem PySem.W PySem.Calls PyProof.Rows
theorem PySem.Challenge.cw_fourleashes_k70_derivations_counted_holds : PySem.Challenge.rw_fourleashes_k70_derivations_counted.Holds := by
  w_on; o_law
  refine HandSHeadRun.head_any (r := OpenLaw.row PySem.Challenge.rw_fourleashes_k70_derivations_counted) (q := view (OpenLaw.row PySem.Challenge.rw_fourleashes_k70_derivations_counted).prog [48]) (H := HeadT.hk) (ob := HeadT.ob) (M := 4000) (loose := HeadT.loose) (d := HandSHeadRun.topDef (OpenLaw.row PySem.Challenge.rw_fourleashes_k70_derivations_counted).prog 48) (kwd := []) HeadT.ob_eq
    (by kernel_rfl) (fun s => by kernel_rfl) HeadT.run (by kernel_rfl) (by kernel_rfl) (by kernel_rfl) (by rfl) (by first | assumption | decide +kernel) (by decide +kernel) ⟨rfl, rfl, rfl, rfl, rfl, by decide +kernel⟩ ?hw ?hc
  case hw => w_witness2
  case hc =>
    refine L2.walk_ofE (l := PySem.Challenge.rw_fourleashes_k70_derivations_counted) (n := 63) (k := 7) (x := "script") (CX := L2.CX0) rfl (by decide) (by kernel_rfl) ⟨rfl, by decide, by decide⟩ ?F (fun _ _ _ _ z => z)
    intro w mg fa h Y G hmg0
    obtain ⟨K, KX, c, hex⟩ := Y
    have hmg : mg ("law" : PySem.Str) = some (.ref fa) := by
      have e : (HandSHeadRun.topDef (OpenLaw.row PySem.Challenge.rw_fourleashes_k70_derivations_counted).prog 48).name = ("law" : PySem.Str) := by kernel_rfl
      rw [← e]
      exact hmg0
    obtain ⟨fd, hb, hF⟩ := EZ.facts (P := (PySem.Challenge.rw_fourleashes_k70_derivations_counted).prog) (w := w) KX G hmg c hex
    exact ⟨K, fd, EZ.spLaw K, KX, hb, fun H a ns hl _ hS => ⟨a, ns, rfl, Nat.le_trans hl (by decide), hS, fun _ => rfl⟩, hF⟩

