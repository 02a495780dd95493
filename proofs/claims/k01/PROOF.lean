import PyProof.Rows.All
import Wide.All
import OpenK.AllK
import Wide.FinOn
import HandS.ForMost
import HandS.ForExc
import HandS.CallSlots
import HandS.Wide
import HandS.WordsExc
import HandS.ExcOwn
import HandS.Ends
import HandS.TupAny
import HandS.IsInst
import PySem.Challenge.RW_mustersums_k01_tokens_split
set_option Elab.async false
set_option linter.all false
set_option maxRecDepth 100000
set_option maxHeartbeats 4000000
/-! FL1: values as trees, how a heap bears them, the slots of a frame -/
namespace FL
open PySem PySem.Spec L2

/-- a value as a tree; unb: a slot that holds nothing we know; tup, fro: never changed any more; lst, dK, dT, ins: owned by the one that holds it -/
inductive T where
  | unb | non | bl (b : Bool) | int (i : Int) | str (x : Str)
  | tup (xs : List T) | fro (xs : List T) | scr (xs : List T) | lst (xs : List T)
  | dK (kvs : List (Key × T)) | dT (kvs : List (List Key × T))
  | ins (c : Str) (fs : List (Str × T))
  deriving Inhabited

/-- it may be held by many -/
def pureT : T → Bool
  | .lst _ => false | .dK _ => false | .dT _ => false | .ins _ _ => false | .unb => false
  | _ => true

/-- nothing is known of it -/
def isU : T → Bool
  | .unb => true
  | _ => false
theorem isU_ne {t : T} (h : isU t = false) : t ≠ .unb := fun e => by subst e; cases h
theorem isU_of {t : T} (h : t ≠ .unb) : isU t = false := by cases t <;> first | rfl | exact absurd rfl h
theorem isU_pure {t : T} (h : pureT t = true) : isU t = false := by cases t <;> first | rfl | cases h

/-- what never changes in a heap -/
def imm : HO → Bool
  | .tup _ => true
  | .frz _ _ => true
  | _ => false

/-- a list that is known for good; a list of the module's own -/
def FrL (H : Hp) (a : Addr) (xs : List V) : Prop := ∃ o, H a = some (.frz o (.lst xs))
def KL (K : PySem.W.Frag) (a : Addr) (xs : List V) : Prop :=
  ∃ (o : Obj) (its : Array Value) (n : Nat), K.lookup a = some o ∧ o.cls = .type "list" ∧ o.dict = none ∧ o.data = .seq its n ∧ its.size ≤ sizeLine ∧ Vals xs its.toList
theorem FrL.sq {K : PySem.W.Frag} {H : Hp} {a : Addr} {xs : List V} (h : FrL H a xs) : SqL K H a xs := let ⟨o, h⟩ := h; .inl (.inr ⟨o, h⟩)
theorem KL.sq {K : PySem.W.Frag} {H : Hp} {a : Addr} {xs : List V} (h : KL K a xs) : SqL K H a xs := .inr h

section
variable (K : PySem.W.Frag) (mg : Str → Option Value) (H : Hp)
mutual
inductive Rep : T → V → List Addr → Prop
  | non : Rep .non .non []
  | bl (b : Bool) : Rep (.bl b) (.bl b) []
  | int (i : Int) : Rep (.int i) (.int i) []
  | str (x : Str) : Rep (.str x) (.str x) []
  | tup {a : Addr} {xs : List V} {ts : List T} : SqT K H a xs → Reps ts xs → Rep (.tup ts) (.ref a) []
  | fro {a : Addr} {xs : List V} {ts : List T} : FrL H a xs → Reps ts xs → Rep (.fro ts) (.ref a) []
  | scr {a : Addr} {xs : List V} {ts : List T} : KL K a xs → Reps ts xs → Rep (.scr ts) (.ref a) []
  | lst {a : Addr} {xs : List V} {ts : List T} : H a = some (.lst xs) → Reps ts xs → Rep (.lst ts) (.ref a) [a]
  | dK {a : Addr} {kvs : List (Key × V)} {ts : List (Key × T)} : H a = some (.dK kvs) → RepK ts kvs → Rep (.dK ts) (.ref a) [a]
  | dT {a : Addr} {kvs : List (List Key × V)} {ts : List (List Key × T)} : H a = some (.dT kvs) → RepT ts kvs → Rep (.dT ts) (.ref a) [a]
  | ins {a C dx : Addr} {c : Str} {fs : List (Str × V)} {ts : List (Str × T)} {G : List Addr} : H a = some (.ins C dx fs) → mg c = some (.ref C) → RepF ts fs G → Rep (.ins c ts) (.ref a) (a :: G)
inductive Reps : List T → List V → Prop
  | nil : Reps [] []
  | cons {t : T} {ts : List T} {v : V} {vs : List V} : Rep t v [] → Reps ts vs → Reps (t :: ts) (v :: vs)
inductive RepK : List (Key × T) → List (Key × V) → Prop
  | nil : RepK [] []
  | cons {k : Key} {t : T} {ts : List (Key × T)} {v : V} {vs : List (Key × V)} : Rep t v [] → RepK ts vs → RepK ((k, t) :: ts) ((k, v) :: vs)
inductive RepT : List (List Key × T) → List (List Key × V) → Prop
  | nil : RepT [] []
  | cons {k : List Key} {t : T} {ts : List (List Key × T)} {v : V} {vs : List (List Key × V)} : Rep t v [] → RepT ts vs → RepT ((k, t) :: ts) ((k, v) :: vs)
inductive RepF : List (Str × T) → List (Str × V) → List Addr → Prop
  | nil : RepF [] [] []
  | cons {f : Str} {t : T} {ts : List (Str × T)} {v : V} {vs : List (Str × V)} {G G' : List Addr} : Rep t v G → RepF ts vs G' → RepF ((f, t) :: ts) ((f, v) :: vs) (G ++ G')
end
/-- the slots of a frame -/
inductive RelE : St → List T → List Addr → Prop
  | nil : RelE [] [] []
  | unb {x : Option V} {σ : St} {ρ : List T} {F : List Addr} : RelE σ ρ F → RelE (x :: σ) (.unb :: ρ) F
  | cons {v : V} {t : T} {σ : St} {ρ : List T} {F G : List Addr} : Rep K mg H t v G → RelE σ ρ F → RelE (some v :: σ) (t :: ρ) (G ++ F)
end

/-- what a step of the program may do to the heap: what is not owned (F) stays, what never changes stays -/
structure Step (F : List Addr) (H H' : Hp) : Prop where
  keep : ∀ b o, H b = some o → b ∉ F → H' b = some o
  ext : ∀ b o, H b = some o → imm o = true → H' b = some o
theorem Step.refl {F : List Addr} {H : Hp} : Step F H H := ⟨fun _ _ h _ => h, fun _ _ h _ => h⟩
theorem Step.trans {F F1 : List Addr} {H H1 H2 : Hp} (a : Step F H H1) (b : Step F1 H1 H2) (h : ∀ x, x ∈ F1 → x ∈ F ∨ H x = none) : Step F H H2 :=
  ⟨fun c o e n => b.keep c o (a.keep c o e n) fun z => (h c z).elim n fun q => (by rw [q] at e; cases e), fun c o e i => b.ext c o (a.ext c o e i) i⟩
theorem Step.mono {F F1 : List Addr} {H H1 : Hp} (a : Step F H H1) (h : ∀ x, x ∈ F → x ∈ F1) : Step F1 H H1 := ⟨fun c o e n => a.keep c o e fun z => n (h c z), a.ext⟩
theorem Step.same {F : List Addr} {H H' : Hp} (h : Same H H') : Step F H H' := ⟨fun b o e _ => h b o e, fun b o e _ => h b o e⟩
theorem Step.fresh {F : List Addr} {H H' : Hp} (a : Step F H H') {b : Addr} (n : b ∉ F) (h : H' b = none) : H b = none := by
  cases q : H b with
  | none => rfl
  | some o => rw [a.keep b o q n] at h; cases h

section
variable {K : PySem.W.Frag} {mg : Str → Option Value} {H H' : Hp}
theorem SqT.ext {a : Addr} {xs : List V} (h : SqT K H a xs) (e : ∀ b o, H b = some o → imm o = true → H' b = some o) : SqT K H' a xs := by
  rcases h with (h | ⟨o, h⟩) | h
  · exact .inl (.inl (e _ _ h rfl))
  · exact .inl (.inr ⟨o, e _ _ h rfl⟩)
  · exact .inr h
theorem FrL.ext {a : Addr} {xs : List V} (h : FrL H a xs) (e : ∀ b o, H b = some o → imm o = true → H' b = some o) : FrL H' a xs := let ⟨o, h⟩ := h; ⟨o, e _ _ h rfl⟩
mutual
theorem Rep.stay : ∀ {t : T} {v : V} {G : List Addr}, Rep K mg H t v G → (∀ b o, H b = some o → imm o = true → H' b = some o) → (∀ b o, b ∈ G → H b = some o → H' b = some o) → Rep K mg H' t v G
  | _, _, _, .non, _, _ => .non
  | _, _, _, .bl b, _, _ => .bl b
  | _, _, _, .int b, _, _ => .int b
  | _, _, _, .str b, _, _ => .str b
  | _, _, _, .tup h r, e, g => .tup (SqT.ext h e) (Reps.stay r e)
  | _, _, _, .fro h r, e, g => .fro (FrL.ext h e) (Reps.stay r e)
  | _, _, _, .scr h r, e, g => .scr h (Reps.stay r e)
  | _, _, _, .lst h r, e, g => .lst (g _ _ (by simp) h) (Reps.stay r e)
  | _, _, _, .dK h r, e, g => .dK (g _ _ (by simp) h) (RepK.stay r e)
  | _, _, _, .dT h r, e, g => .dT (g _ _ (by simp) h) (RepT.stay r e)
  | _, _, _, .ins h m r, e, g => .ins (g _ _ (by simp) h) m (RepF.stay r e fun b o hb q => g b o (List.mem_cons_of_mem _ hb) q)
theorem Reps.stay : ∀ {ts : List T} {vs : List V}, Reps K mg H ts vs → (∀ b o, H b = some o → imm o = true → H' b = some o) → Reps K mg H' ts vs
  | _, _, .nil, _ => .nil
  | _, _, .cons r q, e => .cons (Rep.stay r e fun b o hb _ => by cases hb) (Reps.stay q e)
theorem RepK.stay : ∀ {ts : List (Key × T)} {vs : List (Key × V)}, RepK K mg H ts vs → (∀ b o, H b = some o → imm o = true → H' b = some o) → RepK K mg H' ts vs
  | _, _, .nil, _ => .nil
  | _, _, .cons r q, e => .cons (Rep.stay r e fun b o hb _ => by cases hb) (RepK.stay q e)
theorem RepT.stay : ∀ {ts : List (List Key × T)} {vs : List (List Key × V)}, RepT K mg H ts vs → (∀ b o, H b = some o → imm o = true → H' b = some o) → RepT K mg H' ts vs
  | _, _, .nil, _ => .nil
  | _, _, .cons r q, e => .cons (Rep.stay r e fun b o hb _ => by cases hb) (RepT.stay q e)
theorem RepF.stay : ∀ {ts : List (Str × T)} {vs : List (Str × V)} {G : List Addr}, RepF K mg H ts vs G → (∀ b o, H b = some o → imm o = true → H' b = some o) → (∀ b o, b ∈ G → H b = some o → H' b = some o) → RepF K mg H' ts vs G
  | _, _, _, .nil, _, _ => .nil
  | _, _, _, .cons r q, e, g => .cons (Rep.stay r e fun b o hb z => g b o (List.mem_append_left _ hb) z) (RepF.stay q e fun b o hb z => g b o (List.mem_append_right _ hb) z)
end
theorem Rep.step {F : List Addr} {t : T} {v : V} {G : List Addr} (r : Rep K mg H t v G) (s : Step F H H') (d : ∀ b, b ∈ G → b ∉ F) : Rep K mg H' t v G := r.stay s.ext fun b o hb e => s.keep b o e (d b hb)
theorem Rep.same {t : T} {v : V} {G : List Addr} (r : Rep K mg H t v G) (s : Same H H') : Rep K mg H' t v G := r.stay (fun b o e _ => s b o e) fun b o _ e => s b o e
theorem Reps.same {ts : List T} {vs : List V} (r : Reps K mg H ts vs) (s : Same H H') : Reps K mg H' ts vs := r.stay fun b o e _ => s b o e
theorem RelE.stay : ∀ {σ : St} {ρ : List T} {F : List Addr}, RelE K mg H σ ρ F → (∀ b o, H b = some o → imm o = true → H' b = some o) → (∀ b o, b ∈ F → H b = some o → H' b = some o) → RelE K mg H' σ ρ F
  | _, _, _, .nil, _, _ => .nil
  | _, _, _, .unb r, e, g => .unb (r.stay e g)
  | _, _, _, .cons r q, e, g => .cons (r.stay e fun b o hb z => g b o (List.mem_append_left _ hb) z) (q.stay e fun b o hb z => g b o (List.mem_append_right _ hb) z)
theorem RelE.step {F0 : List Addr} {σ : St} {ρ : List T} {F : List Addr} (r : RelE K mg H σ ρ F) (s : Step F0 H H') (d : ∀ b, b ∈ F → b ∉ F0) : RelE K mg H' σ ρ F := r.stay s.ext fun b o hb e => s.keep b o e (d b hb)
theorem RelE.same {σ : St} {ρ : List T} {F : List Addr} (r : RelE K mg H σ ρ F) (s : Same H H') : RelE K mg H' σ ρ F := r.stay (fun b o e _ => s b o e) fun b o _ e => s b o e

theorem Rep.pure0 {t : T} {v : V} {G : List Addr} (r : Rep K mg H t v G) (p : pureT t = true) : G = [] := by
  cases r <;> first | rfl | cases p
theorem Rep.pure1 {t : T} {v : V} (r : Rep K mg H t v []) : pureT t = true := by
  cases r <;> rfl
theorem Rep.nounb {v : V} {G : List Addr} (r : Rep K mg H .unb v G) : False := nomatch r
/- what is owned stands in the heap, and is not of what never changes -/
mutual
theorem Rep.own : ∀ {t : T} {v : V} {G : List Addr}, Rep K mg H t v G → ∀ b, b ∈ G → ∃ o, H b = some o ∧ imm o = false
  | _, _, _, .non, _, h => nomatch h
  | _, _, _, .bl b, _, h => nomatch h
  | _, _, _, .int b, _, h => nomatch h
  | _, _, _, .str b, _, h => nomatch h
  | _, _, _, .tup _ _, _, h => nomatch h
  | _, _, _, .fro _ _, _, h => nomatch h
  | _, _, _, .scr _ _, _, h => nomatch h
  | _, _, _, .lst h r, b, g => by simp at g; subst g; exact ⟨_, h, rfl⟩
  | _, _, _, .dK h r, b, g => by simp at g; subst g; exact ⟨_, h, rfl⟩
  | _, _, _, .dT h r, b, g => by simp at g; subst g; exact ⟨_, h, rfl⟩
  | _, _, _, .ins h m r, b, g => by
    rcases List.mem_cons.mp g with e | g
    · subst e; exact ⟨_, h, rfl⟩
    · exact RepF.own r b g
theorem RepF.own : ∀ {ts : List (Str × T)} {vs : List (Str × V)} {G : List Addr}, RepF K mg H ts vs G → ∀ b, b ∈ G → ∃ o, H b = some o ∧ imm o = false
  | _, _, _, .nil, _, h => nomatch h
  | _, _, _, .cons r q, b, h => (List.mem_append.mp h).elim (Rep.own r b) (RepF.own q b)
end
theorem RelE.own : ∀ {σ : St} {ρ : List T} {F : List Addr}, RelE K mg H σ ρ F → ∀ b, b ∈ F → ∃ o, H b = some o ∧ imm o = false
  | _, _, _, .nil, _, h => nomatch h
  | _, _, _, .unb r, b, h => r.own b h
  | _, _, _, .cons r q, b, h => (List.mem_append.mp h).elim (r.own b) (q.own b)
theorem RelE.length : ∀ {σ : St} {ρ : List T} {F : List Addr}, RelE K mg H σ ρ F → σ.length = ρ.length
  | _, _, _, .nil => rfl
  | _, _, _, .unb r => congrArg (· + 1) r.length
  | _, _, _, .cons _ r => congrArg (· + 1) r.length
theorem Reps.length : ∀ {ts : List T} {vs : List V}, Reps K mg H ts vs → ts.length = vs.length
  | _, _, .nil => rfl
  | _, _, .cons _ r => congrArg (· + 1) r.length
theorem Reps.get : ∀ {ts : List T} {vs : List V} {i : Nat} {t : T}, Reps K mg H ts vs → ts[i]? = some t → ∃ v, vs[i]? = some v ∧ Rep K mg H t v []
  | _, _, _, _, .nil, e => by simp at e
  | _, _, 0, _, .cons r _, e => by simp at e; subst e; exact ⟨_, rfl, r⟩
  | _, _, i + 1, t, .cons _ r, e => by
    obtain ⟨v, h1, h2⟩ := Reps.get (i := i) (t := t) r (by simpa using e)
    exact ⟨v, by simpa using h1, h2⟩
theorem Reps.set {x : T} {u : V} (r : Rep K mg H x u []) : ∀ {ts : List T} {vs : List V} (i : Nat), Reps K mg H ts vs → Reps K mg H (ts.set i x) (vs.set i u)
  | _, _, _, .nil => .nil
  | _, _, 0, .cons _ t => .cons r t
  | _, _, i + 1, .cons q t => .cons q (Reps.set r i t)
theorem Reps.append : ∀ {ts ts' : List T} {vs vs' : List V}, Reps K mg H ts vs → Reps K mg H ts' vs' → Reps K mg H (ts ++ ts') (vs ++ vs')
  | _, _, _, _, .nil, s => s
  | _, _, _, _, .cons r t, s => .cons r (Reps.append t s)
theorem Reps.take : ∀ {ts : List T} {vs : List V} (n : Nat), Reps K mg H ts vs → Reps K mg H (ts.take n) (vs.take n)
  | _, _, 0, _ => .nil
  | _, _, _ + 1, .nil => .nil
  | _, _, n + 1, .cons r t => .cons r (Reps.take n t)
theorem Reps.drop : ∀ {ts : List T} {vs : List V} (n : Nat), Reps K mg H ts vs → Reps K mg H (ts.drop n) (vs.drop n)
  | _, _, 0, r => r
  | _, _, _ + 1, .nil => .nil
  | _, _, n + 1, .cons _ t => Reps.drop n t
theorem Reps.reverse : ∀ {ts : List T} {vs : List V}, Reps K mg H ts vs → Reps K mg H ts.reverse vs.reverse
  | _, _, .nil => .nil
  | _, _, .cons r t => by
    rw [List.reverse_cons, List.reverse_cons]
    exact (Reps.reverse t).append (.cons r .nil)
theorem Reps.eraseIdx : ∀ {ts : List T} {vs : List V} (n : Nat), Reps K mg H ts vs → Reps K mg H (ts.eraseIdx n) (vs.eraseIdx n)
  | _, _, 0, .nil => .nil
  | _, _, _ + 1, .nil => .nil
  | _, _, 0, .cons _ t => t
  | _, _, n + 1, .cons r t => .cons r (Reps.eraseIdx n t)

/-- a slot is read -/
theorem RelE.get : ∀ {σ : St} {ρ : List T} {F : List Addr} {i : Nat} {t : T}, RelE K mg H σ ρ F → ρ[i]? = some t → t ≠ .unb → ∃ v G, σ[i]? = some (some v) ∧ Rep K mg H t v G ∧ (∀ b, b ∈ G → b ∈ F)
  | _, _, _, _, _, .nil, e, _ => by simp at e
  | _, _, _, 0, _, .unb _, e, n => by simp at e; exact absurd e.symm n
  | _, _, _, 0, _, .cons (G := G) r _, e, n => by simp at e; subst e; exact ⟨_, _, rfl, r, fun b h => List.mem_append_left _ h⟩
  | _, _, _, i + 1, t, .unb r, e, n => by
    obtain ⟨v, G, h1, h2, h3⟩ := r.get (i := i) (t := t) (by simpa using e) n
    exact ⟨v, G, by simpa using h1, h2, h3⟩
  | _, _, _, i + 1, t, .cons (G := G0) _ r, e, n => by
    obtain ⟨v, G, h1, h2, h3⟩ := r.get (i := i) (t := t) (by simpa using e) n
    exact ⟨v, G, by simpa using h1, h2, fun b h => List.mem_append_right _ (h3 b h)⟩
/-- a slot's value is taken out of it -/
theorem RelE.out : ∀ {σ : St} {ρ : List T} {F : List Addr} {i : Nat} {t : T}, RelE K mg H σ ρ F → ρ[i]? = some t → t ≠ .unb → ∃ v G F', σ[i]? = some (some v) ∧ Rep K mg H t v G ∧ RelE K mg H σ (ρ.set i .unb) F' ∧ F.Perm (G ++ F')
  | _, _, _, _, _, .nil, e, _ => by simp at e
  | _, _, _, 0, _, .unb _, e, n => by simp at e; exact absurd e.symm n
  | _, _, _, 0, _, .cons (G := G) (F := F0) r q, e, n => by simp at e; subst e; exact ⟨_, G, F0, rfl, r, .unb q, .refl _⟩
  | _, _, _, i + 1, t, .unb r, e, n => by
    obtain ⟨v, G, F', h1, h2, h3, h4⟩ := r.out (i := i) (t := t) (by simpa using e) n
    exact ⟨v, G, F', by simpa using h1, h2, .unb h3, h4⟩
  | _, _, _, i + 1, t, .cons (G := G0) r0 r, e, n => by
    obtain ⟨v, G, F', h1, h2, h3, h4⟩ := r.out (i := i) (t := t) (by simpa using e) n
    refine ⟨v, G, G0 ++ F', by simpa using h1, h2, .cons r0 h3, ?_⟩
    refine (List.Perm.append_left G0 h4).trans ?_
    rw [← List.append_assoc, ← List.append_assoc]
    exact List.Perm.append_right F' List.perm_append_comm
/-- a slot that holds nothing known gets a value (its own cell holds it) -/
theorem RelE.into : ∀ {σ : St} {ρ : List T} {F : List Addr} {i : Nat} {t : T} {v : V} {G : List Addr}, RelE K mg H σ ρ F → ρ[i]? = some .unb → σ[i]? = some (some v) → Rep K mg H t v G → ∃ F', RelE K mg H σ (ρ.set i t) F' ∧ F'.Perm (G ++ F)
  | _, _, _, _, _, _, _, .nil, e, _, _ => by simp at e
  | _, _, _, 0, _, _, G, .unb (F := F0) q, _, e, r => by simp at e; subst e; exact ⟨_, .cons r q, .refl _⟩
  | _, _, _, 0, _, _, _, .cons r0 q, e, _, _ => by simp at e; subst e; exact r0.nounb.elim
  | _, _, _, i + 1, t, v, G, .unb q, e, e2, r => by
    obtain ⟨F', h1, h2⟩ := q.into (i := i) (t := t) (by simpa using e) (by simpa using e2) r
    exact ⟨F', .unb h1, h2⟩
  | _, _, _, i + 1, t, v, G, .cons (G := G0) (F := F0) r0 q, e, e2, r => by
    obtain ⟨F', h1, h2⟩ := q.into (i := i) (t := t) (by simpa using e) (by simpa using e2) r
    refine ⟨G0 ++ F', .cons r0 h1, ?_⟩
    refine (List.Perm.append_left G0 h2).trans ?_
    rw [← List.append_assoc, ← List.append_assoc]
    exact List.Perm.append_right F0 List.perm_append_comm
/-- a slot is forgotten -/
theorem RelE.drop : ∀ {σ : St} {ρ : List T} {F : List Addr} (i : Nat), RelE K mg H σ ρ F → ∃ F' D, RelE K mg H σ (ρ.set i .unb) F' ∧ F.Perm (D ++ F')
  | _, _, _, _, .nil => ⟨[], [], .nil, .refl _⟩
  | _, _, _, 0, .unb (F := F0) q => ⟨F0, [], .unb q, .refl _⟩
  | _, _, _, 0, .cons (G := G) (F := F0) r q => ⟨F0, G, .unb q, .refl _⟩
  | _, _, _, i + 1, .unb q => by
    obtain ⟨F', D, h1, h2⟩ := q.drop i
    exact ⟨F', D, .unb h1, h2⟩
  | _, _, _, i + 1, .cons (G := G0) r q => by
    obtain ⟨F', D, h1, h2⟩ := q.drop i
    refine ⟨G0 ++ F', D, .cons r h1, ?_⟩
    refine (List.Perm.append_left G0 h2).trans ?_
    rw [← List.append_assoc, ← List.append_assoc]
    exact List.Perm.append_right F' List.perm_append_comm
/-- a forgotten slot's cell may hold anything -/
theorem RelE.cell : ∀ {σ : St} {ρ : List T} {F : List Addr} {i : Nat} (x : Option V), RelE K mg H σ ρ F → ρ[i]? = some .unb → RelE K mg H (σ.set i x) ρ F
  | _, _, _, _, _, .nil, e => by simp at e
  | _, _, _, 0, x, .unb q, _ => .unb q
  | _, _, _, 0, _, .cons r q, e => by simp at e; subst e; exact r.nounb.elim
  | _, _, _, i + 1, x, .unb q, e => .unb (q.cell x (by simpa using e))
  | _, _, _, i + 1, x, .cons r q, e => .cons r (q.cell x (by simpa using e))
/-- a slot is stored -/
theorem RelE.store {σ : St} {ρ : List T} {F G : List Addr} {i : Nat} {t : T} {v : V} (h : RelE K mg H σ ρ F) (hi : i < ρ.length) (r : Rep K mg H t v G) (nd : (F ++ G).Nodup) :
    ∃ F', RelE K mg H (σ.set i (some v)) (ρ.set i t) F' ∧ F'.Nodup ∧ (∀ b, b ∈ F' → b ∈ F ∨ b ∈ G) := by
  obtain ⟨F1, D, h1, p1⟩ := h.drop i
  have e1 : (ρ.set i T.unb)[i]? = some .unb := by simp [hi]
  have h2 := h1.cell (some v) e1
  have e2 : (σ.set i (some v))[i]? = some (some v) := by simp [h.length, hi]
  obtain ⟨F2, h3, p3⟩ := h2.into e1 e2 r
  rw [List.set_set] at h3
  refine ⟨F2, h3, p3.nodup_iff.mpr ?_, fun b hb => ?_⟩
  · have q := (List.Perm.append_right G p1).nodup_iff.mp nd
    rw [List.append_assoc] at q
    exact (List.perm_append_comm.nodup_iff).mp (List.nodup_append.mp q).2.1
  · rcases List.mem_append.mp (p3.mem_iff.mp hb) with z | z
    · exact .inr z
    · exact .inl (p1.mem_iff.mpr (List.mem_append_right _ z))
/-- what a slot owns is changed: the heap is H' now -/
theorem RelE.change {σ : St} {ρ : List T} {F : List Addr} {i : Nat} {t t' : T} (h : RelE K mg H σ ρ F) (nd : F.Nodup) (ht : ρ[i]? = some t) (hu : t ≠ .unb) :
    ∃ v G, σ[i]? = some (some v) ∧ Rep K mg H t v G ∧ (∀ b, b ∈ G → b ∈ F) ∧ ∀ (H' : Hp) (G' : List Addr), Step G H H' → Rep K mg H' t' v G' → G'.Nodup → (∀ b, b ∈ G' → b ∈ G ∨ H b = none) →
      ∃ F', RelE K mg H' σ (ρ.set i t') F' ∧ F'.Nodup ∧ (∀ b, b ∈ F' → b ∈ F ∨ H b = none) ∧ Step F H H' := by
  obtain ⟨v, G, F1, e1, r, h1, p⟩ := h.out ht hu
  have nd1 := p.nodup_iff.mp nd
  obtain ⟨ndG, ndF1, dis⟩ := List.nodup_append.mp nd1
  refine ⟨v, G, e1, r, fun b hb => p.mem_iff.mpr (List.mem_append_left _ hb), fun H' G' st r' ndG' fr => ?_⟩
  have hi : i < ρ.length := (List.getElem?_eq_some_iff.mp ht).1
  have h2 : RelE K mg H' σ (ρ.set i .unb) F1 := h1.step st fun b hb z => dis b z b hb rfl
  obtain ⟨F2, h3, p3⟩ := h2.into (by simp [hi]) e1 r'
  rw [List.set_set] at h3
  refine ⟨F2, h3, p3.nodup_iff.mpr (List.nodup_append.mpr ⟨ndG', ndF1, fun a ha b hb e => ?_⟩), fun b hb => ?_, st.mono fun b hb => p.mem_iff.mpr (List.mem_append_left _ hb)⟩
  · subst e
    rcases fr a ha with z | z
    · exact dis a z a hb rfl
    · obtain ⟨o, q, _⟩ := h1.own a hb
      rw [z] at q; cases q
  · rcases List.mem_append.mp (p3.mem_iff.mp hb) with z | z
    · rcases fr b z with z | z
      · exact .inl (p.mem_iff.mpr (List.mem_append_left _ z))
      · exact .inr z
    · exact .inl (p.mem_iff.mpr (List.mem_append_right _ z))
end
end FL
/-! FL2: programs over trees, and what it means that a piece of syntax does as such a program says -/
namespace FL
open PySem PySem.Spec L2

/-- how a step ends: a value and the slots, or an exception and the slots -/
inductive Res (α : Type) where
  | ok (a : α) (ρ : List T) | exc (e : T) (ρ : List T)
abbrev M (α : Type) := List T → Option (Res α)
section
variable {α β γ : Type}
def M.pure (a : α) : M α := fun ρ => some (.ok a ρ)
def M.bind (f : M α) (g : α → M β) : M β := fun ρ =>
  match f ρ with
  | some (.ok a ρ') => g a ρ'
  | some (.exc e ρ') => some (.exc e ρ')
  | none => none
def M.seq (f : M α) (g : M β) : M (α × β) := f.bind fun a => g.bind fun b => M.pure (a, b)
end
/-- an operand: the slot that holds it, or a value made on the way -/
inductive Hd where
  | pl (i : Nat) | tm (t : T)
/-- a statement's end -/
inductive Fl where
  | nx | rt (t : T) | bk | ct

/-! ### readings -/
abbrev Rl (α β : Type) := Hp → St → α → β → List Addr → Prop
section
variable {α β γ δ : Type} (K : PySem.W.Frag) (mg : Str → Option Value)
def Post (rel : Rl α β) (F : List Addr) (H : Hp) (σ : St) (a : α) (ρ' : List T) (b : β) (H' : Hp) : Prop :=
  ∃ F' G, RelE K mg H' σ ρ' F' ∧ rel H' σ a b G ∧ (F' ++ G).Nodup ∧ (∀ x, x ∈ F' ++ G → x ∈ F ∨ H x = none) ∧ Step F H H'
/-- an exception of the program's own, by its class and its fields -/
def RepX (H : Hp) (e : T) (cls : Value) (d : Option Addr) : Prop :=
  ∃ c C fs, e = .ins c fs ∧ mg c = some (.ref C) ∧ cls = .ref C ∧ ((d = none ∧ fs = []) ∨ ∃ dx vs, d = some dx ∧ H dx = some (.xd vs) ∧ RepF K mg H fs vs [])
def PostX (F : List Addr) (H : Hp) (σ : St) (e : T) (ρ' : List T) (cls : Value) (d : Option Addr) (H' : Hp) : Prop :=
  ∃ F', RelE K mg H' σ ρ' F' ∧ F'.Nodup ∧ (∀ x, x ∈ F' → x ∈ F ∨ H x = none) ∧ Step F H H' ∧ RepX K mg H' e cls d
def RD (rel : Rl α β) (W : WX) (f : M α) : St → Hp → (β → Hp → Prop) → Prop := fun σ H Q => ∃ ρ F, RelE K mg H σ ρ F ∧ F.Nodup ∧
  match f ρ with
  | some (.ok a ρ') => ∀ b H', Post K mg rel F H σ a ρ' b H' → Q b H'
  | some (.exc e ρ') => ∀ cls d H', PostX K mg F H σ e ρ' cls d H' → W cls d σ H'
  | none => False
end
/-- what is said of a value stays, where what it owns stays -/
class StayR {α β : Type} (rel : Rl α β) : Prop where
  stay : ∀ {H H' : Hp} {σ : St} {a : α} {b : β} {G : List Addr}, rel H σ a b G → (∀ x o, H x = some o → imm o = true → H' x = some o) → (∀ x o, x ∈ G → H x = some o → H' x = some o) → rel H' σ a b G
  own : ∀ {H : Hp} {σ : St} {a : α} {b : β} {G : List Addr}, rel H σ a b G → ∀ x, x ∈ G → ∃ o, H x = some o ∧ imm o = false

section
variable (K : PySem.W.Frag) (mg : Str → Option Value)
def rV : Rl T V := fun H _ t v G => Rep K mg H t v G
def rH : Rl Hd V := fun H σ h v G => match h with
  | .pl i => σ[i]? = some (some v) ∧ G = []
  | .tm t => Rep K mg H t v G
def rB : Rl Bool Bool := fun _ _ a b G => a = b ∧ G = []
def rP {α β γ δ : Type} (r : Rl α β) (q : Rl γ δ) : Rl (α × γ) (β × δ) := fun H σ a b G => ∃ G1 G2, G = G1 ++ G2 ∧ r H σ a.1 b.1 G1 ∧ q H σ a.2 b.2 G2
def rL {α β : Type} (r : Rl α β) : Rl (List α) (List β) := fun H σ as bs G => match as, bs with
  | [], [] => G = []
  | a :: as, b :: bs => ∃ G1 G2, G = G1 ++ G2 ∧ r H σ a b G1 ∧ rL r H σ as bs G2
  | _, _ => False
end
instance {K : PySem.W.Frag} {mg : Str → Option Value} : StayR (rV K mg) := ⟨fun r e g => Rep.stay r e g, fun r x hx => Rep.own r x hx⟩
instance {K : PySem.W.Frag} {mg : Str → Option Value} : StayR (rH K mg) := ⟨fun {H H' σ h v G} r e g => match h, r with
  | .pl _, r => r
  | .tm _, r => Rep.stay r e g, fun {H σ h v G} r x hx => match h, r with
  | .pl _, r => (by rw [r.2] at hx; cases hx)
  | .tm _, r => Rep.own r x hx⟩
instance : StayR rB := ⟨fun r _ _ => r, fun {_ _ _ _ _} r x hx => (by rw [r.2] at hx; cases hx)⟩
instance {α β γ δ : Type} {r : Rl α β} {q : Rl γ δ} [StayR r] [StayR q] : StayR (rP r q) := ⟨fun ⟨G1, G2, e, h1, h2⟩ i g =>
    ⟨G1, G2, e, StayR.stay h1 i fun x o hx => g x o (by rw [e]; exact List.mem_append_left _ hx), StayR.stay h2 i fun x o hx => g x o (by rw [e]; exact List.mem_append_right _ hx)⟩,
  fun ⟨G1, G2, e, h1, h2⟩ x hx => by
    rw [e] at hx
    exact (List.mem_append.mp hx).elim (StayR.own h1 x) (StayR.own h2 x)⟩
theorem rL.stay {α β : Type} {r : Rl α β} [StayR r] {H H' : Hp} {σ : St} : ∀ {as : List α} {bs : List β} {G : List Addr}, rL r H σ as bs G → (∀ x o, H x = some o → imm o = true → H' x = some o) → (∀ x o, x ∈ G → H x = some o → H' x = some o) → rL r H' σ as bs G
  | [], [], _, h, _, _ => h
  | a :: as, b :: bs, _, ⟨G1, G2, e, h1, h2⟩, i, g => ⟨G1, G2, e, StayR.stay h1 i fun x o hx => g x o (by rw [e]; exact List.mem_append_left _ hx), rL.stay h2 i fun x o hx => g x o (by rw [e]; exact List.mem_append_right _ hx)⟩
  | [], _ :: _, _, h, _, _ => h.elim
  | _ :: _, [], _, h, _, _ => h.elim
theorem rL.own {α β : Type} {r : Rl α β} [StayR r] {H : Hp} {σ : St} : ∀ {as : List α} {bs : List β} {G : List Addr}, rL r H σ as bs G → ∀ x, x ∈ G → ∃ o, H x = some o ∧ imm o = false
  | [], [], _, h, x, hx => by rw [show _ = [] from h] at hx; cases hx
  | a :: as, b :: bs, _, ⟨G1, G2, e, h1, h2⟩, x, hx => by
    rw [e] at hx
    exact (List.mem_append.mp hx).elim (StayR.own h1 x) (rL.own h2 x)
  | [], _ :: _, _, h, _, _ => h.elim
  | _ :: _, [], _, h, _, _ => h.elim
instance {α β : Type} {r : Rl α β} [StayR r] : StayR (rL r) := ⟨rL.stay, rL.own⟩

section
variable {α β γ δ : Type} {K : PySem.W.Frag} {mg : Str → Option Value} {rel : Rl α β} {rel' : Rl γ δ} {W : WX} {F : List Addr} {H H1 H2 : Hp} {σ : St} {a : α} {b : β} {ρ1 ρ2 : List T}
theorem Post.refl (R : RelE K mg H σ ρ1 F) (nd : F.Nodup) (h : rel H σ a b []) : Post K mg rel F H σ a ρ1 b H :=
  ⟨F, [], R, h, by simpa using nd, fun x hx => .inl (by simpa using hx), Step.refl⟩
/-- behind one step the next one -/
theorem Post.next [StayR rel] (p : Post K mg rel F H σ a ρ1 b H1) : ∃ F1, RelE K mg H1 σ ρ1 F1 ∧ F1.Nodup ∧
    (∀ c ρ2 d H2, Post K mg rel' F1 H1 σ c ρ2 d H2 → Post K mg (rP rel rel') F H σ (a, c) ρ2 (b, d) H2) ∧
    (∀ e ρ2 cls d H2, PostX K mg F1 H1 σ e ρ2 cls d H2 → PostX K mg F H σ e ρ2 cls d H2) := by
  obtain ⟨F1, G1, R1, r1, nd1, fr1, s1⟩ := p
  obtain ⟨nF1, nG1, dis⟩ := List.nodup_append.mp nd1
  have back : ∀ {l : List Addr}, (∀ x, x ∈ l → x ∈ F1 ∨ H1 x = none) → ∀ x, x ∈ l → x ∈ F ∨ H x = none := fun fr2 x hx => by
    rcases fr2 x hx with z | z
    · exact fr1 x (List.mem_append_left _ z)
    · by_cases hF : x ∈ F
      · exact .inl hF
      · exact .inr (s1.fresh hF z)
  refine ⟨F1, R1, nF1, fun c ρ2 d H2 ⟨F2, G2, R2, r2, nd2, fr2, s2⟩ => ?_, fun e ρ2 cls d H2 ⟨F2, R2, nd2, fr2, s2, x⟩ => ⟨F2, R2, nd2, back fr2, s1.trans s2 fun x hx => fr1 x (List.mem_append_left _ hx), x⟩⟩
  have r1' : rel H2 σ a b G1 := StayR.stay r1 s2.ext fun x o hx e => s2.keep x o e fun z => dis x z x hx rfl
  refine ⟨F2, G1 ++ G2, R2, ⟨G1, G2, rfl, r1', r2⟩, ?_, fun x hx => ?_, s1.trans s2 fun x hx => fr1 x (List.mem_append_left _ hx)⟩
  · obtain ⟨nF2, nG2, dis2⟩ := List.nodup_append.mp nd2
    have d1 : ∀ x, x ∈ F2 ++ G2 → x ∉ G1 := fun x hx hg => by
      rcases fr2 x hx with z | z
      · exact dis x z x hg rfl
      · obtain ⟨o, q, _⟩ := StayR.own r1 x hg
        rw [z] at q; cases q
    refine List.nodup_append.mpr ⟨nF2, List.nodup_append.mpr ⟨nG1, nG2, fun x hx y hy e => ?_⟩, fun x hx y hy e => ?_⟩
    · subst e; exact d1 x (List.mem_append_right _ hy) hx
    · subst e
      rcases List.mem_append.mp hy with z | z
      · exact d1 x (List.mem_append_left _ hx) z
      · exact dis2 x hx x z rfl
  · rcases List.mem_append.mp hx with z | z
    · exact back fr2 x (List.mem_append_left _ z)
    · rcases List.mem_append.mp z with z | z
      · exact fr1 x (List.mem_append_right _ z)
      · exact back fr2 x (List.mem_append_right _ z)
/-- the heap has grown by new things alone -/
structure New (H H' : Hp) (G : List Addr) : Prop where
  same : Same H H'
  free : ∀ x, x ∈ G → H x = none
  nd : G.Nodup
theorem New.refl {H : Hp} : New H H [] := ⟨fun _ _ h => h, fun _ h => (nomatch h), List.nodup_nil⟩
theorem New.one {H : Hp} {p : Addr} {o : HO} (h : H p = none) : New H (upd H p o) [p] := ⟨fun b x e => by rw [upd_ne (ne_of_none e h)]; exact e, fun x hx => by simp at hx; subst hx; exact h, by simp⟩
theorem New.drop {H H' : Hp} {G : List Addr} (n : New H H' G) : New H H' [] := ⟨n.same, fun _ h => (nomatch h), List.nodup_nil⟩
/-- what was made on the way is forgotten, a new value takes its place -/
theorem Post.new {c : γ} {d : δ} {G : List Addr} (p : Post K mg rel F H σ a ρ1 b H1) (n : New H1 H2 G) (r : rel' H2 σ c d G) : Post K mg rel' F H σ c ρ1 d H2 := by
  obtain ⟨F1, G1, R1, _, nd1, fr1, s1⟩ := p
  obtain ⟨nF1, _, _⟩ := List.nodup_append.mp nd1
  refine ⟨F1, G, R1.same n.same, r, List.nodup_append.mpr ⟨nF1, n.nd, fun x hx y hy e => ?_⟩, fun x hx => ?_, s1.trans (Step.same (F := []) n.same) (fun _ h => nomatch h)⟩
  · subst e
    obtain ⟨o, q, _⟩ := R1.own x hx
    rw [n.free x hy] at q; cases q
  · rcases List.mem_append.mp hx with z | z
    · exact fr1 x (List.mem_append_left _ z)
    · by_cases hF : x ∈ F
      · exact .inl hF
      · exact .inr (s1.fresh hF (n.free x z))
/-- the same things, told otherwise -/
theorem Post.imp {c : γ} {d : δ} (p : Post K mg rel F H σ a ρ1 b H1) (h : ∀ G, rel H1 σ a b G → rel' H1 σ c d G) : Post K mg rel' F H σ c ρ1 d H1 := by
  obtain ⟨F1, G1, R1, r, x⟩ := p
  exact ⟨F1, G1, R1, h _ r, x⟩
theorem Post.st (p : Post K mg rel F H σ a ρ1 b H1) : ∃ F1 G, RelE K mg H1 σ ρ1 F1 ∧ F1.Nodup ∧ rel H1 σ a b G := by
  obtain ⟨F1, G1, R1, r, nd, x⟩ := p
  exact ⟨F1, G1, R1, (List.nodup_append.mp nd).1, r⟩

/-! ### readings in a row -/
theorem RD.seq [StayR rel] {f : M α} {g : M γ} {Q : β × δ → Hp → Prop} (h : RD K mg (rP rel rel') W (f.seq g) σ H Q) : RD K mg rel W f σ H fun b H1 => RD K mg rel' W g σ H1 fun d H2 => Q (b, d) H2 := by
  obtain ⟨ρ, F, R, nd, h⟩ := h
  refine ⟨ρ, F, R, nd, ?_⟩
  unfold M.seq M.bind at h
  cases e : f ρ with
  | none => rw [e] at h; exact h
  | some r =>
    rw [e] at h
    cases r with
    | exc x ρ1 => exact h
    | ok a ρ1 =>
      intro b H1 p
      obtain ⟨F1, R1, nd1, nx, nxX⟩ := p.next (rel' := rel')
      refine ⟨ρ1, F1, R1, nd1, ?_⟩
      simp only [] at h
      cases e2 : g ρ1 with
      | none => rw [e2] at h; exact h
      | some r2 =>
        rw [e2] at h
        cases r2 with
        | exc x ρ2 => exact fun cls d H2 p2 => h cls d H2 (nxX _ _ _ _ _ p2)
        | ok c ρ2 => exact fun d H2 p2 => h (b, d) H2 (nx _ _ _ _ p2)
/-- the last step: by values alone -/
theorem RD.fin {f : M α} {g : α → M γ} {Q : δ → Hp → Prop} {Q' : β → Hp → Prop} (h : RD K mg rel' W (f.bind g) σ H Q)
    (hg : ∀ a ρ1 b H1 F, Post K mg rel F H σ a ρ1 b H1 → (match g a ρ1 with
      | some (.ok c ρ2) => ∀ d H2, Post K mg rel' F H σ c ρ2 d H2 → Q d H2
      | some (.exc e ρ2) => ∀ cls d H2, PostX K mg F H σ e ρ2 cls d H2 → W cls d σ H2
      | none => False) → Q' b H1) : RD K mg rel W f σ H Q' := by
  obtain ⟨ρ, F, R, nd, h⟩ := h
  refine ⟨ρ, F, R, nd, ?_⟩
  unfold M.bind at h
  cases e : f ρ with
  | none => rw [e] at h; exact h
  | some r =>
    rw [e] at h
    cases r with
    | exc x ρ1 => exact h
    | ok a ρ1 => exact fun b H1 p => hg a ρ1 b H1 F p h
theorem RD.mono {f : M α} {Q Q' : β → Hp → Prop} (h : RD K mg rel W f σ H Q) (hq : ∀ b H', Q b H' → Q' b H') : RD K mg rel W f σ H Q' := by
  obtain ⟨ρ, F, R, nd, h⟩ := h
  refine ⟨ρ, F, R, nd, ?_⟩
  cases e : f ρ with
  | none => rw [e] at h; exact h
  | some r =>
    rw [e] at h
    cases r with
    | exc x ρ1 => exact h
    | ok a ρ1 => exact fun b H1 p => hq b H1 (h b H1 p)
end

/-! ### the judgements -/
section
variable (X : Cx) (W : WX)
def FE (e : Expr) (f : M T) : Prop := PE X e (RD X.K X.mg (rV X.K X.mg) W f)
def FO (e : Expr) (f : M Hd) : Prop := PE X e (RD X.K X.mg (rH X.K X.mg) W f)
def FA (es : List Expr) (f : M (List Hd)) : Prop := PA X es (RD X.K X.mg (rL (rH X.K X.mg)) W f)
def FT (e : Expr) (f : M Bool) : Prop := PT X e (RD X.K X.mg rB W f)
def FW (e : Expr) (f : M Bool) : Prop := PW X e (RD X.K X.mg rB W f)
end
theorem PE.imp {X : Cx} {e : Expr} {t t' : TE} (h : PE X e t) (i : ∀ σ H Q, t' σ H Q → t σ H Q) : PE X e t' := ⟨fun pins s σ H Q I q => h.run pins s σ H Q I (i σ H Q q)⟩
theorem PT.imp {X : Cx} {e : Expr} {t t' : TT} (h : PT X e t) (i : ∀ σ H Q, t' σ H Q → t σ H Q) : PT X e t' := ⟨fun pins s σ H Q I q => h.run pins s σ H Q I (i σ H Q q)⟩
theorem PW.imp {X : Cx} {e : Expr} {t t' : TT} (h : PW X e t) (i : ∀ σ H Q, t' σ H Q → t σ H Q) : PW X e t' := ⟨fun wh pins s σ H Q I q => h.run wh pins s σ H Q I (i σ H Q q)⟩
theorem PA.imp {X : Cx} {e : List Expr} {t t' : TA} (h : PA X e t) (i : ∀ σ H Q, t' σ H Q → t σ H Q) : PA X e t' := ⟨fun pos pins s σ H Q I q => h.run pos pins s σ H Q I (i σ H Q q)⟩

/-! ### constants, names, operands -/
def fC (t : T) : M T := M.pure t
section
variable {X : Cx} {W : WX} {e : Expr} {es : List Expr} {pos : Pos}
theorem RD.const {K : PySem.W.Frag} {mg : Str → Option Value} {t : T} {v : V} {σ : St} {H : Hp} {Q : VK} (r : ∀ H, Rep K mg H t v []) (h : RD K mg (rV K mg) W (fC t) σ H Q) : Q v H := by
  obtain ⟨ρ, F, R, nd, h⟩ := h
  exact h v H (Post.refl R nd (r H))
theorem fe_int {i j} : FE X W (.Constant (.int i) j pos) (fC (.int i)) := PE.imp pe_int fun _ _ _ h => RD.const (fun _ => .int i) h
theorem fe_bl {b j} : FE X W (.Constant (.bool b) j pos) (fC (.bl b)) := PE.imp pe_bl fun _ _ _ h => RD.const (fun _ => .bl b) h
theorem fe_non {j} : FE X W (.Constant .none j pos) (fC .non) := PE.imp pe_non fun _ _ _ h => RD.const (fun _ => .non) h
theorem fe_str {x j} : FE X W (.Constant (.str x) j pos) (fC (.str x)) := PE.imp pe_str fun _ _ _ h => RD.const (fun _ => .str x) h
/-- a module's constant -/
theorem fe_glob {x : Str} {t : T} {v : V} {u : Value} (hg : Gl X x) (hm : X.mg x = some u) (r : RelV v u) (rp : ∀ H, Rep X.K X.mg H t v []) (hd : (x == ("__debug__" : Str)) = false := by decide) : FE X W (.Name x pos) (fC t) :=
  PE.imp (pe_glob hg hm r hd) fun _ _ _ h => RD.const rp h
/-- a slot, as an operand -/
def oVar (i : Nat) : M Hd := fun ρ => if isU (ρ.getD i .unb) = true then none else some (.ok (.pl i) ρ)
theorem getD_some {ρ : List T} {i : Nat} (h : isU (ρ.getD i .unb) = false) : ρ[i]? = some (ρ.getD i .unb) := by
  cases q : ρ[i]? with
  | none => simp [q, isU] at h
  | some t => simp [q]
theorem fo_var {i : Nat} {x : Str} (hN : X.N[i]? = some x) (hv : Vis X.env.scope x) (hd : (x == ("__debug__" : Str)) = false := by decide) (hcd : (x == ("__classdict__" : Str)) = false := by decide) : FO X W (.Name x pos) (oVar i) := by
  refine PE.imp (pe_var hN hv hd hcd) fun σ H Q h => ?_
  obtain ⟨ρ, F, R, nd, h⟩ := h
  unfold oVar at h
  cases hu : isU (ρ.getD i .unb) with
  | true => rw [hu, if_pos rfl] at h; exact h.elim
  | false =>
    rw [hu, if_neg (by decide)] at h
    obtain ⟨v, G, hs, _⟩ := R.get (getD_some hu) (isU_ne hu)
    exact ⟨v, hs, h v H (Post.refl R nd ⟨hs, rfl⟩)⟩
/-- a value made on the way, as an operand -/
def oTm (f : M T) : M Hd := f.bind fun t => M.pure (.tm t)
theorem fo_tm {f : M T} (h : FE X W e f) : FO X W e (oTm f) := PE.imp h fun σ H Q q => RD.fin (rel' := rH X.K X.mg) q fun a ρ1 b H1 F p k => k b H1 (p.imp fun _ r => r)
/-- what an operand stands for -/
def res (ρ : List T) : Hd → T
  | .pl i => ρ.getD i .unb
  | .tm t => t
theorem res_rep {K : PySem.W.Frag} {mg : Str → Option Value} {H : Hp} {σ : St} {ρ : List T} {F G : List Addr} {h : Hd} {v : V} (R : RelE K mg H σ ρ F) (r : rH K mg H σ h v G) (hu : res ρ h ≠ .unb) : ∃ G', Rep K mg H (res ρ h) v G' := by
  cases h with
  | tm t => exact ⟨_, r⟩
  | pl i =>
    have e : ρ[i]? = some (res ρ (.pl i)) := getD_some (isU_of hu)
    obtain ⟨v', G', h1, h2, _⟩ := R.get e hu
    have e2 : v' = v := by
      have e3 := h1.symm.trans r.1
      injection e3 with e3; injection e3
    subst e2
    exact ⟨G', h2⟩
/-- an operand as a value: copied where it may be held by many, else taken out of its slot -/
def takeH (h : Hd) : M T := fun ρ => match h with
  | .tm t => some (.ok t ρ)
  | .pl i => if isU (ρ.getD i .unb) = true then none else if pureT (ρ.getD i .unb) = true then some (.ok (ρ.getD i .unb) ρ) else some (.ok (ρ.getD i .unb) (ρ.set i .unb))
def fOf (o : M Hd) : M T := o.bind takeH
theorem fe_of {o : M Hd} (h : FO X W e o) : FE X W e (fOf o) := PE.imp h fun σ H Q q => RD.fin (rel' := rV X.K X.mg) q fun a ρ1 b H1 F p k => by
  cases a with
  | tm t => exact k b H1 p
  | pl i =>
    obtain ⟨F1, G1, R1, r1, nd1, fr1, s1⟩ := p
    obtain ⟨hs, eG⟩ := r1
    subst eG
    unfold takeH at k
    simp only [] at k
    cases hu : isU (ρ1.getD i .unb) with
    | true => rw [hu, if_pos rfl] at k; exact k.elim
    | false =>
      rw [hu, if_neg (by decide)] at k
      obtain ⟨v, G, F2, e2, r, R2, pm⟩ := R1.out (getD_some hu) (isU_ne hu)
      have ev : v = b := by
        have e3 := e2.symm.trans hs
        injection e3 with e3; injection e3
      subst ev
      by_cases hp : pureT (ρ1.getD i .unb) = true
      · have eG : G = [] := r.pure0 hp
        subst eG
        rw [if_pos hp] at k
        exact k _ H1 ⟨F1, [], R1, r, nd1, fr1, s1⟩
      · rw [if_neg hp] at k
        have pm2 : F1.Perm (F2 ++ G) := pm.trans List.perm_append_comm
        refine k _ H1 ⟨F2, G, R2, r, pm2.nodup_iff.mp (by simpa using nd1), fun x hx => fr1 x (by simpa using pm2.mem_iff.mpr hx), s1⟩
abbrev fVar (i : Nat) : M T := fOf (oVar i)

/-! ### operators by values -/
def opM (g : T → T → Option T) (p : Hd × Hd) : M T := fun ρ => if isU (res ρ p.1) = true then none else if isU (res ρ p.2) = true then none else (g (res ρ p.1) (res ρ p.2)).map fun t => .ok t ρ
theorem opM_eq {g : T → T → Option T} {p : Hd × Hd} {ρ : List T} {r : Res T} (h : opM g p ρ = some r) : res ρ p.1 ≠ .unb ∧ res ρ p.2 ≠ .unb ∧ ∃ t, g (res ρ p.1) (res ρ p.2) = some t ∧ r = .ok t ρ := by
  unfold opM at h
  cases h1 : isU (res ρ p.1) with
  | true => rw [h1, if_pos rfl] at h; cases h
  | false =>
    rw [h1, if_neg (by decide)] at h
    cases h2 : isU (res ρ p.2) with
    | true => rw [h2, if_pos rfl] at h; cases h
    | false =>
      rw [h2, if_neg (by decide), Option.map_eq_some_iff] at h
      obtain ⟨t, h3, h4⟩ := h
      exact ⟨isU_ne h1, isU_ne h2, t, h3, h4.symm⟩
def fOp2 (g : T → T → Option T) (a b : M Hd) : M T := (a.seq b).bind (opM g)
/-- what a relation of values wishes is given where g says so -/
def R2S (K : PySem.W.Frag) (mg : Str → Option Value) (r : R2) (g : T → T → Option T) : Prop :=
  ∀ (H : Hp) (a b : T) (x y : V) (Ga Gb : List Addr) (t : T) (Q : VK), Rep K mg H a x Ga → Rep K mg H b y Gb → g a b = some t → (∀ v H' G, New H H' G → Rep K mg H' t v G → Q v H') → r x y H Q
theorem RD.op2 {g : T → T → Option T} {r : R2} {a b : M Hd} (S : R2S X.K X.mg r g) {σ : St} {H : Hp} {Q : VK} (h : RD X.K X.mg (rV X.K X.mg) W (fOp2 g a b) σ H Q) : tOp r (RD X.K X.mg (rH X.K X.mg) W a) (RD X.K X.mg (rH X.K X.mg) W b) σ H Q := by
  refine RD.seq (rel := rH X.K X.mg) (rel' := rH X.K X.mg) (Q := fun (p : V × V) H2 => r p.1 p.2 H2 Q) (RD.fin (rel := rP (rH X.K X.mg) (rH X.K X.mg)) h fun p ρ1 xy H1 F ps k => ?_)
  cases e : opM g p ρ1 with
  | none => rw [e] at k; exact k.elim
  | some w =>
    obtain ⟨u1, u2, t, hg, rfl⟩ := opM_eq e
    rw [e] at k
    obtain ⟨F1, G, R1, nd1, G1, G2, _, r1, r2⟩ := ps.st
    obtain ⟨Ga, ra⟩ := res_rep R1 r1 u1
    obtain ⟨Gb, rb⟩ := res_rep R1 r2 u2
    exact S H1 _ _ _ _ Ga Gb t Q ra rb hg fun v H' G n rt => k v H' (ps.new n rt)
theorem fe_bin {a b : Expr} {oa ob : M Hd} {op : Operator} {r : R2} {g : T → T → Option T} (S : R2S X.K X.mg r g) (ho : OpR X (binaryOp op) r) (ha : FO X W a oa) (hb : FO X W b ob) : FE X W (.BinOp a op b pos) (fOp2 g oa ob) :=
  PE.imp (pe_op ho ha hb) fun _ _ _ h => RD.op2 S h
theorem fe_cmp {a b : Expr} {oa ob : M Hd} {op : CmpOp} {r : R2} {g : T → T → Option T} (S : R2S X.K X.mg r g) (ho : OpR X (compareOp op) r) (ha : FO X W a oa) (hb : FO X W b ob) (hm : behindInMarks op b = false) : FE X W (.Compare a [op] [b] pos) (fOp2 g oa ob) :=
  PE.imp (pe_cmpR ho ha hb hm) fun _ _ _ h => RD.op2 S h
def unM (g : T → Option T) (p : Hd) : M T := fun ρ => if isU (res ρ p) = true then none else (g (res ρ p)).map fun t => .ok t ρ
theorem unM_eq {g : T → Option T} {p : Hd} {ρ : List T} {r : Res T} (h : unM g p ρ = some r) : res ρ p ≠ .unb ∧ ∃ t, g (res ρ p) = some t ∧ r = .ok t ρ := by
  unfold unM at h
  cases h1 : isU (res ρ p) with
  | true => rw [h1, if_pos rfl] at h; cases h
  | false =>
    rw [h1, if_neg (by decide), Option.map_eq_some_iff] at h
    obtain ⟨t, h3, h4⟩ := h
    exact ⟨isU_ne h1, t, h3, h4.symm⟩
def fOp1 (g : T → Option T) (a : M Hd) : M T := a.bind (unM g)
def R1S (K : PySem.W.Frag) (mg : Str → Option Value) (r : V → Hp → VK → Prop) (g : T → Option T) : Prop :=
  ∀ (H : Hp) (a : T) (x : V) (Ga : List Addr) (t : T) (Q : VK), Rep K mg H a x Ga → g a = some t → (∀ v H' G, New H H' G → Rep K mg H' t v G → Q v H') → r x H Q
theorem RD.op1 {g : T → Option T} {r : V → Hp → VK → Prop} {a : M Hd} (S : R1S X.K X.mg r g) {σ : St} {H : Hp} {Q : VK} (h : RD X.K X.mg (rV X.K X.mg) W (fOp1 g a) σ H Q) : tUn r (RD X.K X.mg (rH X.K X.mg) W a) σ H Q := by
  refine RD.fin (rel := rH X.K X.mg) (Q' := fun x H1 => r x H1 Q) h fun p ρ1 xy H1 F ps k => ?_
  cases e : unM g p ρ1 with
  | none => rw [e] at k; exact k.elim
  | some w =>
    obtain ⟨u1, t, hg, rfl⟩ := unM_eq e
    rw [e] at k
    obtain ⟨F1, G, R1, nd1, r1⟩ := ps.st
    obtain ⟨Ga, ra⟩ := res_rep R1 r1 u1
    exact S H1 _ _ Ga t Q ra hg fun v H' G n rt => k v H' (ps.new n rt)
theorem fe_un {a : Expr} {oa : M Hd} {op : UnaryOp} {r : V → Hp → VK → Prop} {g : T → Option T} (S : R1S X.K X.mg r g) (ho : UnR X (unaryOp op) r) (ha : FO X W a oa) : FE X W (.UnaryOp op a pos) (fOp1 g oa) :=
  PE.imp (pe_un ho ha) fun _ _ _ h => RD.op1 S h

/-! ### lists of operands -/
def aNil : M (List Hd) := M.pure []
def aCons (o : M Hd) (r : M (List Hd)) : M (List Hd) := (o.seq r).bind fun p => M.pure (p.1 :: p.2)
theorem fa_nil : FA X W [] aNil := PA.imp pa_nil fun σ H Q h => by
  obtain ⟨ρ, F, R, nd, h⟩ := h
  exact h [] H (Post.refl R nd rfl)
theorem fa_cons {o : M Hd} {r : M (List Hd)} (h : FO X W e o) (hr : FA X W es r) (hs : starEach (e :: es) X.env = (false, eval e X.env) :: starEach es X.env := by rfl) : FA X W (e :: es) (aCons o r) :=
  PA.imp (pa_cons h hr hs) fun σ H Q q => RD.seq (rel := rH X.K X.mg) (rel' := rL (rH X.K X.mg)) (Q := fun (p : V × List V) H2 => Q (p.1 :: p.2) H2)
    (RD.fin (rel := rP (rH X.K X.mg) (rL (rH X.K X.mg))) (rel' := rL (rH X.K X.mg)) q fun p ρ1 xy H1 F ps k => k _ H1 (ps.imp fun _ r => r))
/-- what the operands stand for -/
def resL (ρ : List T) : List Hd → Option (List T)
  | [] => some []
  | h :: hs => if isU (res ρ h) = true then none else (resL ρ hs).map fun ts => res ρ h :: ts
inductive RepA (K : PySem.W.Frag) (mg : Str → Option Value) (H : Hp) : List T → List V → Prop
  | nil : RepA K mg H [] []
  | cons {t : T} {v : V} {G : List Addr} {ts : List T} {vs : List V} : Rep K mg H t v G → RepA K mg H ts vs → RepA K mg H (t :: ts) (v :: vs)
theorem resL_rep {K : PySem.W.Frag} {mg : Str → Option Value} {H : Hp} {σ : St} {ρ : List T} {F : List Addr} (R : RelE K mg H σ ρ F) : ∀ {hs : List Hd} {vs : List V} {G : List Addr} {ts : List T}, rL (rH K mg) H σ hs vs G → resL ρ hs = some ts → RepA K mg H ts vs
  | [], [], _, _, _, e => by cases e; exact .nil
  | h :: hs, v :: vs, _, ts, ⟨G1, G2, _, r1, r2⟩, e => by
    unfold resL at e
    have hi : isU (res ρ h) = false := by
      cases h1 : isU (res ρ h) with
      | false => rfl
      | true => rw [h1, if_pos rfl] at e; cases e
    have hu := isU_ne hi
    have e' : (resL ρ hs).map (fun ts => res ρ h :: ts) = some ts := by
      rw [hi, if_neg (by decide)] at e
      exact e
    obtain ⟨ts', e1, e2⟩ := Option.map_eq_some_iff.mp e'
    obtain ⟨G', rr⟩ := res_rep R r1 hu
    subst e2
    exact .cons rr (resL_rep R r2 e1)
  | [], _ :: _, _, _, r, _ => r.elim
  | _ :: _, [], _, _, r, _ => r.elim
def callM (g : List T → Option T) (hs : List Hd) : M T := fun ρ => match resL ρ hs with
  | none => none
  | some ts => (g ts).map fun t => .ok t ρ
def fCall (g : List T → Option T) (a : M (List Hd)) : M T := a.bind (callM g)
def RLS (K : PySem.W.Frag) (mg : Str → Option Value) (r : List V → Hp → VK → Prop) (g : List T → Option T) : Prop :=
  ∀ (H : Hp) (ts : List T) (vs : List V) (t : T) (Q : VK), RepA K mg H ts vs → g ts = some t → (∀ v H' G, New H H' G → Rep K mg H' t v G → Q v H') → r vs H Q
theorem RD.call {g : List T → Option T} {r : List V → Hp → VK → Prop} {a : M (List Hd)} (S : RLS X.K X.mg r g) {σ : St} {H : Hp} {Q : VK} (h : RD X.K X.mg (rV X.K X.mg) W (fCall g a) σ H Q) : tCB r (RD X.K X.mg (rL (rH X.K X.mg)) W a) σ H Q := by
  refine RD.fin (rel := rL (rH X.K X.mg)) (Q' := fun vs H1 => r vs H1 Q) h fun hs ρ1 vs H1 F ps k => ?_
  unfold callM at k
  cases e : resL ρ1 hs with
  | none => rw [e] at k; exact k.elim
  | some ts =>
    rw [e] at k
    simp only [] at k
    cases e2 : g ts with
    | none => rw [e2] at k; exact k.elim
    | some t =>
      rw [e2] at k
      obtain ⟨F1, G, R1, nd1, r1⟩ := ps.st
      exact S H1 ts vs t Q (resL_rep R1 r1 e) e2 fun v H' G n rt => k v H' (ps.new n rt)
variable {x : Str} {p : Pos} {id Ty : String} {r : List V → Hp → VK → Prop} {g : List T → Option T} {a : M (List Hd)}
theorem fe_callB (S : RLS X.K X.mg r g) (hc : CallR X (.builtin id) r) (hg : Gl X x) (hm : X.mg x = none) (hv : bootBuiltins x = some (.builtin id)) (ha : FA X W (e :: es) a) (hn : x ≠ "__name__" := by decide) (hdb : (x == ("__debug__" : Str)) = false := by decide)
    (he : starEach (e :: es) X.env = (false, eval e X.env) :: starEach es X.env := by rfl) (hpl : (backTo pos (starEach es X.env)).any (·.1) = false := by rfl) : FE X W (.Call (.Name x p) (e :: es) [] pos) (fCall g a) :=
  PE.imp (pe_callB hc hg hm hv ha hn hdb he hpl) fun _ _ _ h => RD.call S h
theorem fe_callTy (S : RLS X.K X.mg r g) (hc : CallR X (.type Ty) r) (hg : Gl X x) (hm : X.mg x = none) (hv : bootBuiltins x = some (.type Ty)) (ha : FA X W (e :: es) a) (hn : x ≠ "__name__" := by decide) (hdb : (x == ("__debug__" : Str)) = false := by decide)
    (he : starEach (e :: es) X.env = (false, eval e X.env) :: starEach es X.env := by rfl) (hpl : (backTo pos (starEach es X.env)).any (·.1) = false := by rfl) : FE X W (.Call (.Name x p) (e :: es) [] pos) (fCall g a) :=
  PE.imp (pe_callTy hc hg hm hv ha hn hdb he hpl) fun _ _ _ h => RD.call S h
end
end FL
/-! FL3: tests, statements, loops, calls of defs, a def's body -/
namespace FL
open PySem PySem.Spec L2

/-! ### tests -/
def asB (t : T) : M Bool := fun ρ => match t with
  | .bl b => some (.ok b ρ)
  | _ => none
def fTest (f : M T) : M Bool := f.bind asB
def mIf {α : Type} (c : M Bool) (f g : M α) : M α := c.bind fun b => if b = true then f else g
def mAnd (c d : M Bool) : M Bool := c.bind fun b => if b = true then d else M.pure false
def mOr (c d : M Bool) : M Bool := c.bind fun b => if b = true then M.pure true else d
def mNot (c : M Bool) : M Bool := c.bind fun b => M.pure (!b)
section
variable {X : Cx} {W : WX} {e a b : Expr} {pos : Pos} {K : PySem.W.Frag} {mg : Str → Option Value} {σ : St} {H : Hp}
theorem RD.asB {f : M T} {Q : Bool → Hp → Prop} (h : RD K mg rB W (fTest f) σ H Q) : RD K mg (rV K mg) W f σ H fun x H' => ∃ k, x = .bl k ∧ Q k H' := by
  refine RD.fin (rel' := rB) h fun t ρ1 v H1 F p k => ?_
  cases t with
  | bl c =>
    obtain ⟨F1, G, R1, nd1, r⟩ := p.st
    cases (show Rep K mg H1 (.bl c) v G from r)
    exact ⟨c, rfl, k c H1 (p.imp fun G r => ⟨rfl, r.pure0 rfl⟩)⟩
  | _ => exact k.elim
theorem ft_val {f : M T} (h : FE X W e f) (he : ∀ whole, isTrue e X.env whole = (do let v ← whole; standAt e.pos; holding [v] (truthy v)) := by intro _; rfl) : FT X W e (fTest f) :=
  PT.imp (pt_val h he) fun _ _ _ q => RD.asB q
theorem ft_cmp {oa ob : M Hd} {op : CmpOp} {r : R2} {g : T → T → Option T} (S : R2S X.K X.mg r g) (ho : OpR X (compareOp op) r) (ha : FO X W a oa) (hb : FO X W b ob) (hm : behindInMarks op b = false) : FT X W (.Compare a [op] [b] pos) (fTest (fOp2 g oa ob)) :=
  PT.imp (pt_cmpR ho ha hb hm) fun σ H Q q => by
    have q1 := RD.asB q
    exact RD.op2 (Q := fun x H' => ∃ k, x = .bl k ∧ Q k H') S q1
theorem RD.bindB {α β : Type} {rel : Rl α β} {c : M Bool} {g : Bool → M α} {Q : β → Hp → Prop} (h : RD K mg rel W (c.bind g) σ H Q) : RD K mg rB W c σ H fun b H1 => RD K mg rel W (g b) σ H1 Q := by
  obtain ⟨ρ, F, R, nd, h⟩ := h
  refine ⟨ρ, F, R, nd, ?_⟩
  unfold M.bind at h
  cases e : c ρ with
  | none => rw [e] at h; exact h
  | some r =>
    rw [e] at h
    cases r with
    | exc x ρ1 => exact h
    | ok b0 ρ1 =>
      intro b H1 p
      obtain ⟨F1, R1, nd1, nx, nxX⟩ := p.next (rel' := rel)
      obtain ⟨F1', G, R1', nd', eb, eG⟩ := p.st
      subst eb
      have drop : ∀ a ρ2 d H2, Post K mg rel F1 H1 σ a ρ2 d H2 → Post K mg rel F H σ a ρ2 d H2 := fun a ρ2 d H2 p2 => (nx a ρ2 d H2 p2).imp fun G ⟨G1, G2, eG, r1, r2⟩ => by
        have e1 : G1 = [] := r1.2
        subst e1
        rw [eG]; exact r2
      refine ⟨ρ1, F1, R1, nd1, ?_⟩
      simp only [] at h
      cases e2 : g b0 ρ1 with
      | none => rw [e2] at h; exact h
      | some r2 =>
        rw [e2] at h
        cases r2 with
        | exc x ρ2 => exact fun cls d H2 p2 => h cls d H2 (nxX _ _ _ _ _ p2)
        | ok c ρ2 => exact fun d H2 p2 => h d H2 (drop _ _ _ _ p2)
theorem RD.pureB {b : Bool} {Q : Bool → Hp → Prop} (h : RD K mg rB W (M.pure b) σ H Q) : Q b H := by
  obtain ⟨ρ, F, R, nd, h⟩ := h
  exact h b H (Post.refl R nd ⟨rfl, rfl⟩)
variable {rest : List Expr} {fa fb : M Bool}
theorem fw_and1 (ha : FT X W a fa) : FW X W (.BoolOp .And [a] pos) fa := pw_and1 ha
theorem fw_or1 (ha : FT X W a fa) : FW X W (.BoolOp .Or [a] pos) fa := pw_or1 ha
theorem fw_and (ha : FT X W a fa) (hb : FW X W (.BoolOp .And (b :: rest) pos) fb) : FW X W (.BoolOp .And (a :: b :: rest) pos) (mAnd fa fb) := PW.imp (pw_and ha hb) fun σ H Q q => (RD.bindB q).mono fun c H1 q1 => by
  cases c with
  | true => rw [if_pos rfl] at q1 ⊢; exact q1
  | false => rw [if_neg (by decide)] at q1 ⊢; exact RD.pureB q1
theorem fw_or (ha : FT X W a fa) (hb : FW X W (.BoolOp .Or (b :: rest) pos) fb) : FW X W (.BoolOp .Or (a :: b :: rest) pos) (mOr fa fb) := PW.imp (pw_or ha hb) fun σ H Q q => (RD.bindB q).mono fun c H1 q1 => by
  cases c with
  | false => rw [if_neg (by decide)] at q1 ⊢; exact q1
  | true => rw [if_pos rfl] at q1 ⊢; exact RD.pureB q1
theorem ft_w {f : M Bool} (h : FW X W e f) : FT X W e f := h.pt
theorem ft_not (ha : FT X W a fa) : FT X W (.UnaryOp .Not a pos) (mNot fa) := PT.imp (pt_not ha) fun σ H Q q => (RD.bindB q).mono fun c H1 q1 => RD.pureB q1
/-- and, or, not as values (bools) -/
def ofB (f : M Bool) : M T := f.bind fun b => M.pure (.bl b)
def vAnd (fa fb : M T) : M T := (fTest fa).bind fun b => if b = true then fb else M.pure (.bl false)
def vOr (fa fb : M T) : M T := (fTest fa).bind fun b => if b = true then M.pure (.bl true) else fb
def vNot (fa : M T) : M T := (fTest fa).bind fun b => M.pure (.bl !b)
theorem RD.pureBl {b : Bool} {Q : VK} (h : RD K mg (rV K mg) W (M.pure (.bl b)) σ H Q) : Q (.bl b) H := RD.const (W := W) (fun _ => .bl b) h
variable {va vb : M T}
theorem fe_one {op} {f : M T} (h : FE X W a f) : FE X W (.BoolOp op [a] pos) f := pe_one h
theorem fe_and (ha : FE X W a va) (hb : FE X W (.BoolOp .And (b :: rest) pos) vb) : FE X W (.BoolOp .And (a :: b :: rest) pos) (vAnd va vb) := PE.imp (pe_and ha hb) fun σ H Q q => (RD.asB (RD.bindB q)).mono fun x H1 ⟨c, e, q1⟩ => ⟨c, e, by
  cases c with
  | true => rw [if_pos rfl] at q1 ⊢; exact q1
  | false => rw [if_neg (by decide)] at q1 ⊢; exact RD.pureBl q1⟩
theorem fe_or (ha : FE X W a va) (hb : FE X W (.BoolOp .Or (b :: rest) pos) vb) : FE X W (.BoolOp .Or (a :: b :: rest) pos) (vOr va vb) := PE.imp (pe_or ha hb) fun σ H Q q => (RD.asB (RD.bindB q)).mono fun x H1 ⟨c, e, q1⟩ => ⟨c, e, by
  cases c with
  | false => rw [if_neg (by decide)] at q1 ⊢; exact q1
  | true => rw [if_pos rfl] at q1 ⊢; exact RD.pureBl q1⟩
theorem fe_not (ha : FE X W a va) : FE X W (.UnaryOp .Not a pos) (vNot va) := PE.imp (pe_not ha) fun σ H Q q => (RD.asB (RD.bindB q)).mono fun x H1 ⟨c, e, q1⟩ => ⟨c, e, RD.pureBl q1⟩
theorem fe_ifExp {c : Expr} {fc : M Bool} (hc : FT X W c fc) (ha : FE X W a va) (hb : FE X W b vb) : FE X W (.IfExp c a b pos) (mIf fc va vb) := PE.imp (pe_ifExp hc ha hb) fun σ H Q q => (RD.bindB q).mono fun k H1 q1 => by
  cases k with
  | true => rw [if_pos rfl] at q1 ⊢; exact q1
  | false => rw [if_neg (by decide)] at q1 ⊢; exact q1
end

/-! ### statements -/
section
variable (K : PySem.W.Frag) (mg : Str → Option Value) (pr : Nat → Bool)
def Kept (σ σ' : St) : Prop := σ'.length = σ.length ∧ ∀ i, pr i = true → σ'[i]? = σ[i]?
def PostS (F : List Addr) (H : Hp) (σ : St) (ρ' : List T) (σ' : St) (H' : Hp) : Prop :=
  ∃ F', RelE K mg H' σ' ρ' F' ∧ F'.Nodup ∧ (∀ x, x ∈ F' → x ∈ F ∨ H x = none) ∧ Step F H H' ∧ Kept pr σ σ'
def PostR (F : List Addr) (H : Hp) (σ : St) (t : T) (ρ' : List T) (v : V) (H' : Hp) : Prop :=
  ∃ σ' F' G, RelE K mg H' σ' ρ' F' ∧ Rep K mg H' t v G ∧ (F' ++ G).Nodup ∧ (∀ x, x ∈ F' ++ G → x ∈ F ∨ H x = none) ∧ Step F H H' ∧ Kept pr σ σ'
def PostY (F : List Addr) (H : Hp) (σ : St) (e : T) (ρ' : List T) (cls : Value) (d : Option Addr) (σ' : St) (H' : Hp) : Prop :=
  ∃ F', RelE K mg H' σ' ρ' F' ∧ F'.Nodup ∧ (∀ x, x ∈ F' → x ∈ F ∨ H x = none) ∧ Step F H H' ∧ Kept pr σ σ' ∧ RepX K mg H' e cls d
def RS (W : WX) (f : M Fl) : TS := fun D σ H => ∃ ρ F, RelE K mg H σ ρ F ∧ F.Nodup ∧
  match f ρ with
  | some (.ok fl ρ') => (match fl with
    | .nx => ∀ σ' H', PostS K mg pr F H σ ρ' σ' H' → D.nx σ' H'
    | .bk => ∀ σ' H', PostS K mg pr F H σ ρ' σ' H' → D.bk σ' H'
    | .ct => ∀ σ' H', PostS K mg pr F H σ ρ' σ' H' → D.ct σ' H'
    | .rt t => ∀ v H', PostR K mg pr F H σ t ρ' v H' → D.rt v H')
  | some (.exc e ρ') => ∀ cls d σ' H', PostY K mg pr F H σ e ρ' cls d σ' H' → W cls d σ' H'
  | none => False
end
section
variable (X : Cx) (W : WX) (pr : Nat → Bool)
def FS (st : Stmt) (f : M Fl) : Prop := PS X st (RS X.K X.mg pr W f)
def FSs (st : List Stmt) (f : M Fl) : Prop := PSs X st (RS X.K X.mg pr W f)
end
theorem PS.imp {X : Cx} {e : Stmt} {t t' : TS} (h : PS X e t) (i : ∀ D σ H, t' D σ H → t D σ H) : PS X e t' := ⟨fun pins s σ H D I q => h.run pins s σ H D I (i D σ H q)⟩
theorem PSs.imp {X : Cx} {e : List Stmt} {t t' : TS} (h : PSs X e t) (i : ∀ D σ H, t' D σ H → t D σ H) : PSs X e t' := ⟨fun pins s σ H D I q => h.run pins s σ H D I (i D σ H q)⟩
def fSeq (f g : M Fl) : M Fl := f.bind fun fl => match fl with
  | .nx => g
  | fl => M.pure fl
section
variable {K : PySem.W.Frag} {mg : Str → Option Value} {pr : Nat → Bool} {F : List Addr} {H H1 : Hp} {σ σ1 : St} {ρ1 : List T} {W : WX}
theorem Kept.refl : Kept pr σ σ := ⟨rfl, fun _ _ => rfl⟩
theorem Kept.trans {σ2 : St} (a : Kept pr σ σ1) (b : Kept pr σ1 σ2) : Kept pr σ σ2 := ⟨b.1.trans a.1, fun i h => (b.2 i h).trans (a.2 i h)⟩
theorem PostS.next (p : PostS K mg pr F H σ ρ1 σ1 H1) : ∃ F1, RelE K mg H1 σ1 ρ1 F1 ∧ F1.Nodup ∧
    (∀ ρ2 σ2 H2, PostS K mg pr F1 H1 σ1 ρ2 σ2 H2 → PostS K mg pr F H σ ρ2 σ2 H2) ∧
    (∀ t ρ2 v H2, PostR K mg pr F1 H1 σ1 t ρ2 v H2 → PostR K mg pr F H σ t ρ2 v H2) ∧
    (∀ e ρ2 cls d σ2 H2, PostY K mg pr F1 H1 σ1 e ρ2 cls d σ2 H2 → PostY K mg pr F H σ e ρ2 cls d σ2 H2) := by
  obtain ⟨F1, R1, nd1, fr1, s1, k1⟩ := p
  have back : ∀ {l : List Addr}, (∀ x, x ∈ l → x ∈ F1 ∨ H1 x = none) → ∀ x, x ∈ l → x ∈ F ∨ H x = none := fun fr2 x hx => by
    rcases fr2 x hx with z | z
    · exact fr1 x z
    · by_cases hF : x ∈ F
      · exact .inl hF
      · exact .inr (s1.fresh hF z)
  exact ⟨F1, R1, nd1, fun ρ2 σ2 H2 ⟨F2, R2, nd2, fr2, s2, k2⟩ => ⟨F2, R2, nd2, back fr2, s1.trans s2 fr1, k1.trans k2⟩,
    fun t ρ2 v H2 ⟨σ2, F2, G, R2, r, nd2, fr2, s2, k2⟩ => ⟨σ2, F2, G, R2, r, nd2, back fr2, s1.trans s2 fr1, k1.trans k2⟩,
    fun e ρ2 cls d σ2 H2 ⟨F2, R2, nd2, fr2, s2, k2, x⟩ => ⟨F2, R2, nd2, back fr2, s1.trans s2 fr1, k1.trans k2, x⟩⟩
theorem Post.toS {α β : Type} {rel : Rl α β} {a : α} {b : β} (p : Post K mg rel F H σ a ρ1 b H1) : PostS K mg pr F H σ ρ1 σ H1 := by
  obtain ⟨F1, G, R1, r, nd, fr, s⟩ := p
  exact ⟨F1, R1, (List.nodup_append.mp nd).1, fun x hx => fr x (List.mem_append_left _ hx), s, Kept.refl⟩
theorem Post.toR {t : T} {v : V} (p : Post K mg (rV K mg) F H σ t ρ1 v H1) : PostR K mg pr F H σ t ρ1 v H1 := by
  obtain ⟨F1, G, R1, r, nd, fr, s⟩ := p
  exact ⟨σ, F1, G, R1, r, nd, fr, s, Kept.refl⟩
theorem PostX.toY {e : T} {cls : Value} {d : Option Addr} (p : PostX K mg F H σ e ρ1 cls d H1) : PostY K mg pr F H σ e ρ1 cls d σ H1 := by
  obtain ⟨F1, R1, nd, fr, s, x⟩ := p
  exact ⟨F1, R1, nd, fr, s, Kept.refl, x⟩
/-- from a reading at the beginning: a value, then the rest -/
theorem RS.of {α β : Type} {rel : Rl α β} {f : M α} {g : α → M Fl} {D : Ends} {Q : β → Hp → Prop} (h : RS K mg pr W (f.bind g) D σ H)
    (hg : ∀ a ρ1 b H1 F, Post K mg rel F H σ a ρ1 b H1 → (match g a ρ1 with
      | some (.ok fl ρ') => (match fl with
        | .nx => ∀ σ' H', PostS K mg pr F H σ ρ' σ' H' → D.nx σ' H'
        | .bk => ∀ σ' H', PostS K mg pr F H σ ρ' σ' H' → D.bk σ' H'
        | .ct => ∀ σ' H', PostS K mg pr F H σ ρ' σ' H' → D.ct σ' H'
        | .rt t => ∀ v H', PostR K mg pr F H σ t ρ' v H' → D.rt v H')
      | some (.exc e ρ') => ∀ cls d σ' H', PostY K mg pr F H σ e ρ' cls d σ' H' → W cls d σ' H'
      | none => False) → Q b H1) : RD K mg rel W f σ H Q := by
  obtain ⟨ρ, F, R, nd, h⟩ := h
  refine ⟨ρ, F, R, nd, ?_⟩
  unfold M.bind at h
  cases e : f ρ with
  | none => rw [e] at h; exact h
  | some r =>
    rw [e] at h
    cases r with
    | exc x ρ1 => exact fun cls d H' p => h cls d σ H' p.toY
    | ok a ρ1 => exact fun b H1 p => hg a ρ1 b H1 F p h
theorem RS.seq {f g : M Fl} {D : Ends} (h : RS K mg pr W (fSeq f g) D σ H) : RS K mg pr W f { D with nx := RS K mg pr W g D } σ H := by
  obtain ⟨ρ, F, R, nd, h⟩ := h
  refine ⟨ρ, F, R, nd, ?_⟩
  unfold fSeq M.bind at h
  cases e : f ρ with
  | none => rw [e] at h; exact h
  | some r =>
    rw [e] at h
    cases r with
    | exc x ρ1 => exact h
    | ok fl ρ1 =>
      cases fl with
      | rt t => exact h
      | bk => exact h
      | ct => exact h
      | nx =>
        intro σ1 H1 p
        obtain ⟨F1, R1, nd1, nS, nR, nY⟩ := p.next
        refine ⟨ρ1, F1, R1, nd1, ?_⟩
        simp only [] at h
        cases e2 : g ρ1 with
        | none => rw [e2] at h; exact h
        | some r2 =>
          rw [e2] at h
          cases r2 with
          | exc x ρ2 => exact fun cls d σ2 H2 p2 => h cls d σ2 H2 (nY _ _ _ _ _ _ p2)
          | ok fl2 ρ2 =>
            cases fl2 with
            | nx => exact fun σ2 H2 p2 => h σ2 H2 (nS _ _ _ p2)
            | bk => exact fun σ2 H2 p2 => h σ2 H2 (nS _ _ _ p2)
            | ct => exact fun σ2 H2 p2 => h σ2 H2 (nS _ _ _ p2)
            | rt t => exact fun v H2 p2 => h v H2 (nR _ _ _ _ p2)
/-- from a value's reading on: a statement behind it -/
theorem RS.bindB {c : M Bool} {g : Bool → M Fl} {D : Ends} (h : RS K mg pr W (c.bind g) D σ H) : RD K mg rB W c σ H fun b H1 => RS K mg pr W (g b) D σ H1 := by
  refine RS.of (rel := rB) h fun b0 ρ1 b H1 F p k => ?_
  obtain ⟨F1', G, R1', nd', eb, eG⟩ := p.st
  subst eb
  obtain ⟨F1, R1, nd1, nS, nR, nY⟩ := (p.toS (pr := pr)).next
  refine ⟨ρ1, F1, R1, nd1, ?_⟩
  cases e2 : g b0 ρ1 with
  | none => rw [e2] at k; exact k
  | some r2 =>
    rw [e2] at k
    cases r2 with
    | exc x ρ2 => exact fun cls d σ2 H2 p2 => k cls d σ2 H2 (nY _ _ _ _ _ _ p2)
    | ok fl2 ρ2 =>
      cases fl2 with
      | nx => exact fun σ2 H2 p2 => k σ2 H2 (nS _ _ _ p2)
      | bk => exact fun σ2 H2 p2 => k σ2 H2 (nS _ _ _ p2)
      | ct => exact fun σ2 H2 p2 => k σ2 H2 (nS _ _ _ p2)
      | rt t => exact fun v H2 p2 => k v H2 (nR _ _ _ _ p2)
theorem RS.nx {D : Ends} (h : RS K mg pr W (M.pure .nx) D σ H) : D.nx σ H := by
  obtain ⟨ρ, F, R, nd, h⟩ := h
  exact h σ H ⟨F, R, nd, fun x hx => .inl hx, Step.refl, Kept.refl⟩
theorem RS.bk {D : Ends} (h : RS K mg pr W (M.pure .bk) D σ H) : D.bk σ H := by
  obtain ⟨ρ, F, R, nd, h⟩ := h
  exact h σ H ⟨F, R, nd, fun x hx => .inl hx, Step.refl, Kept.refl⟩
theorem RS.ct {D : Ends} (h : RS K mg pr W (M.pure .ct) D σ H) : D.ct σ H := by
  obtain ⟨ρ, F, R, nd, h⟩ := h
  exact h σ H ⟨F, R, nd, fun x hx => .inl hx, Step.refl, Kept.refl⟩
end
section
variable {X : Cx} {W : WX} {pr : Nat → Bool} {st : Stmt} {rest body : List Stmt} {f g : M Fl} {e : Expr} {v : M T} {pos pos' : Pos}
def sNx : M Fl := M.pure .nx
theorem fss_nil : FSs X W pr [] sNx := PSs.imp pss_nil fun D σ H h => RS.nx h
theorem fss_cons (h1 : FS X W pr st f) (h2 : FSs X W pr rest g) : FSs X W pr (st :: rest) (fSeq f g) := PSs.imp (pss_cons h1 h2) fun D σ H h => RS.seq h
theorem fss_one (h1 : FS X W pr st f) : FSs X W pr [st] f := pss_one h1
theorem fs_pass : FS X W pr (.Pass pos) sNx := PS.imp ps_pass fun D σ H h => RS.nx h
theorem fs_break : FS X W pr (.Break pos) (M.pure .bk) := PS.imp ps_break fun D σ H h => RS.bk h
theorem fs_continue : FS X W pr (.Continue pos) (M.pure .ct) := PS.imp ps_continue fun D σ H h => RS.ct h
def sRet (f : M T) : M Fl := f.bind fun t => M.pure (.rt t)
theorem fs_ret (h : FE X W e v) : FS X W pr (.Return (some e) pos) (sRet v) := PS.imp (ps_ret h) fun D σ H q => RS.of q fun a ρ1 b H1 F p k => k b H1 p.toR
def sRetN : M Fl := M.pure (.rt .non)
theorem fs_retN : FS X W pr (.Return none pos) sRetN := PS.imp ps_retN fun D σ H q => by
  obtain ⟨ρ, F, R, nd, h⟩ := q
  exact h .non H (Post.toR (Post.refl R nd .non))
def sDrop (f : M T) : M Fl := f.bind fun _ => M.pure .nx
theorem fs_expr (h : FE X W e v) (hs : swapsWith e none pos.line X.env = pure false := by rfl) : FS X W pr (.Expr e pos) (sDrop v) := PS.imp (ps_expr h hs) fun D σ H q => RS.of (Q := fun _ H1 => D.nx σ H1) q fun a ρ1 b H1 F p k => k σ H1 p.toS
def putS (i : Nat) (t : T) : M Fl := fun ρ => if i < ρ.length then some (.ok .nx (ρ.set i t)) else none
def sSet (i : Nat) (f : M T) : M Fl := f.bind (putS i)
theorem Kept.set {σ : St} {i : Nat} {x : Option V} (h : pr i = false) : Kept pr σ (σ.set i x) := ⟨by rw [List.length_set], fun j hj => by
  have : j ≠ i := fun e => by rw [e, h] at hj; cases hj
  rw [List.getElem?_set_ne (Ne.symm this)]⟩
/-- a value goes into a slot -/
theorem Post.put {K : PySem.W.Frag} {mg : Str → Option Value} {F : List Addr} {H H1 : Hp} {σ : St} {t : T} {ρ1 : List T} {b : V} {i : Nat} (p : Post K mg (rV K mg) F H σ t ρ1 b H1) (hi : i < ρ1.length) (hp : pr i = false) : PostS K mg pr F H σ (ρ1.set i t) (σ.set i (some b)) H1 := by
  obtain ⟨F1, G, R1, r, nd, fr, s⟩ := p
  obtain ⟨F2, R2, nd2, sub⟩ := R1.store hi r nd
  exact ⟨F2, R2, nd2, fun x hx => fr x (List.mem_append.mpr (sub x hx)), s, Kept.set hp⟩
theorem fs_set {i : Nat} {x : Str} (h : FE X W e v) (hN : X.N.Nodup) (hi : X.N[i]? = some x) (hx : Loc X.env.scope x) (hp : pr i = false := by rfl) (hs : swapsWith e (some (.Name x pos')) pos.line X.env = pure false := by rfl) (hf : X.fn x = true ∨ X.env.scope.names.lookup x = some .local := by first | exact .inl rfl | exact .inr rfl | assumption) :
    FS X W pr (.Assign [.Name x pos'] e pos) (sSet i v) := PS.imp (ps_set hN hi hx h hs hf) fun D σ H q => RS.of (Q := fun y H1 => D.nx (σ.set i (some y)) H1) q fun a ρ1 b H1 F p k => by
  unfold putS at k
  by_cases hl : i < ρ1.length
  · rw [if_pos hl] at k
    exact k _ H1 (p.put hl hp)
  · rw [if_neg hl] at k; exact k.elim
/-- name op= e, the name's value one that many may hold -/
def augM (i : Nat) (g : T → T → Option T) (a : T) (t : Hd) : M Fl := fun ρ => if isU (res ρ t) = true then none else (g a (res ρ t)).bind fun z => if i < ρ.length then some (.ok .nx (ρ.set i z)) else none
def sAug (i : Nat) (g : T → T → Option T) (f : M Hd) : M Fl := fun ρ => if pureT (ρ.getD i .unb) = true then (f.bind (augM i g (ρ.getD i .unb))) ρ else none
theorem fs_aug {i : Nat} {x : Str} {op : Operator} {r : R2} {g : T → T → Option T} {o : M Hd} (S : R2S X.K X.mg r g) (ho : PIp X op r) (h : FO X W e o) (hN : X.N.Nodup) (hi : X.N[i]? = some x) (hx : Loc X.env.scope x) (hp : pr i = false := by rfl) (hf : X.fn x = true ∨ X.env.scope.names.lookup x = some .local := by first | exact .inl rfl | exact .inr rfl | assumption) :
    FS X W pr (.AugAssign (.Name x pos') op e pos) (sAug i g o) := PS.imp (ps_aug hN hi hx h ho hf) fun D σ H q => by
  obtain ⟨ρ, F, R, nd, q⟩ := q
  unfold sAug at q
  by_cases hpa : pureT (ρ.getD i .unb) = true
  · rw [if_pos hpa] at q
    have hu := isU_pure hpa
    obtain ⟨v, G, hs, ra, _⟩ := R.get (getD_some hu) (isU_ne hu)
    generalize ρ.getD i .unb = a at *
    have eG := ra.pure0 hpa
    subst eG
    refine ⟨v, hs, ?_⟩
    refine RS.of (pr := pr) (D := D) (Q := fun y H1 => r v y H1 fun z H2 => D.nx (σ.set i (some z)) H2) (show RS X.K X.mg pr W (o.bind (augM i g a)) D σ H from ⟨ρ, F, R, nd, q⟩) fun t ρ2 y H1 F' p k => ?_
    unfold augM at k
    cases hb : isU (res ρ2 t) with
    | true => rw [hb, if_pos rfl] at k; exact k.elim
    | false =>
      rw [hb, if_neg (by decide)] at k
      cases hz : g a (res ρ2 t) with
      | none => rw [hz] at k; exact k.elim
      | some z =>
        rw [hz] at k
        simp only [Option.bind_some] at k
        by_cases hl : i < ρ2.length
        · rw [if_pos hl] at k
          obtain ⟨F2, G2, R2, nd2, r2⟩ := p.st
          obtain ⟨Gb, rb⟩ := res_rep R2 r2 (isU_ne hb)
          have ra' : Rep X.K X.mg H1 a v [] := by
            obtain ⟨_, _, _, _, _, _, st⟩ := p
            exact ra.stay st.ext fun b o hb _ => by cases hb
          exact S H1 a _ v y [] Gb z _ ra' rb hz fun zv H2 G n rt => k _ H2 ((p.new (rel' := rV X.K X.mg) n rt).put hl hp)
        · rw [if_neg hl] at k; exact k.elim
  · rw [if_neg hpa] at q; exact q.elim
/-- if -/
theorem fs_if {c : Expr} {fc : M Bool} {a b : List Stmt} (hc : FT X W c fc) (ha : FSs X W pr a f) (hb : FSs X W pr b g) : FS X W pr (.If c a b pos) (mIf fc f g) := PS.imp (ps_if hc ha hb) fun D σ H q => (RS.bindB q).mono fun k H1 q1 => by
  cases k with
  | true => rw [if_pos rfl] at q1 ⊢; exact q1
  | false => rw [if_neg (by decide)] at q1 ⊢; exact q1

/-! ### while -/
def sWhile (c : M Bool) (b : M Fl) (ρ : List T) : Option (Res Fl) := match c ρ with
  | none => none
  | some (.exc e ρ1) => some (.exc e ρ1)
  | some (.ok false ρ1) => some (.ok .nx ρ1)
  | some (.ok true ρ1) => match b ρ1 with
    | none => none
    | some (.exc e ρ2) => some (.exc e ρ2)
    | some (.ok .nx ρ2) => sWhile c b ρ2
    | some (.ok .ct ρ2) => sWhile c b ρ2
    | some (.ok .bk ρ2) => some (.ok .nx ρ2)
    | some (.ok (.rt t) ρ2) => some (.ok (.rt t) ρ2)
partial_fixpoint
def whN (c : M Bool) (b : M Fl) : Nat → M Fl
  | 0, _ => none
  | n + 1, ρ => match c ρ with
    | none => none
    | some (.exc e ρ1) => some (.exc e ρ1)
    | some (.ok false ρ1) => some (.ok .nx ρ1)
    | some (.ok true ρ1) => match b ρ1 with
      | none => none
      | some (.exc e ρ2) => some (.exc e ρ2)
      | some (.ok .nx ρ2) => whN c b n ρ2
      | some (.ok .ct ρ2) => whN c b n ρ2
      | some (.ok .bk ρ2) => some (.ok .nx ρ2)
      | some (.ok (.rt t) ρ2) => some (.ok (.rt t) ρ2)
theorem sWhile_whN {c : M Bool} {b : M Fl} : ∀ (ρ : List T) (r : Res Fl), sWhile c b ρ = some r → ∃ n, whN c b n ρ = some r := by
  refine sWhile.partial_correctness c b (fun ρ r => ∃ n, whN c b n ρ = some r) fun w hw ρ r h => ?_
  cases e : c ρ with
  | none => rw [e] at h; cases h
  | some r1 =>
    rw [e] at h
    cases r1 with
    | exc x ρ1 => exact ⟨1, by unfold whN; rw [e]; exact h⟩
    | ok k ρ1 =>
      cases k with
      | false => exact ⟨1, by unfold whN; rw [e]; exact h⟩
      | true =>
        cases e2 : b ρ1 with
        | none => simp only [e2] at h; cases h
        | some r2 =>
          cases r2 with
          | exc x ρ2 => exact ⟨1, by unfold whN; simp only [e, e2] at h ⊢; exact h⟩
          | ok fl ρ2 =>
            cases fl with
            | nx =>
              simp only [e2] at h
              obtain ⟨n, hn⟩ := hw _ _ h
              exact ⟨n + 1, by unfold whN; simp only [e, e2]; exact hn⟩
            | ct =>
              simp only [e2] at h
              obtain ⟨n, hn⟩ := hw _ _ h
              exact ⟨n + 1, by unfold whN; simp only [e, e2]; exact hn⟩
            | bk => exact ⟨1, by unfold whN; simp only [e, e2] at h ⊢; exact h⟩
            | rt t => exact ⟨1, by unfold whN; simp only [e, e2] at h ⊢; exact h⟩
theorem fs_while {c : Expr} {fc : M Bool} {fb : M Fl} (hp : PassesOwn (model X.prog X.w) X.A X.env X.xe) (hc : FT X W c fc) (hb : FSs X W pr body fb) : FS X W pr (.While c body [] pos) (sWhile fc fb) := PS.imp (ps_while hp hc hb) fun D σ0 H0 q => by
  obtain ⟨ρ0, F0, R0, nd0, q⟩ := q
  cases e0 : sWhile fc fb ρ0 with
  | none => rw [e0] at q; exact q.elim
  | some r =>
    rw [e0] at q
    obtain ⟨n0, hn0⟩ := sWhile_whN ρ0 r e0
    refine ⟨fun n σ H => ∃ ρ, PostS X.K X.mg pr F0 H0 σ0 ρ σ H ∧ whN fc fb n ρ = some r, ⟨n0, ρ0, ⟨F0, R0, nd0, fun x hx => .inl hx, Step.refl, Kept.refl⟩, hn0⟩, fun n σ H ⟨ρ, p, hn⟩ => ?_⟩
    cases n with
    | zero => cases hn
    | succ n =>
      obtain ⟨F1, R1, nd1, nS, nR, nY⟩ := p.next
      refine ⟨ρ, F1, R1, nd1, ?_⟩
      unfold whN at hn
      cases e1 : fc ρ with
      | none => rw [e1] at hn; cases hn
      | some r1 =>
        rw [e1] at hn
        cases r1 with
        | exc x ρ1 =>
          cases hn
          exact fun cls d H' px => q cls d σ H' (nY _ _ _ _ _ _ px.toY)
        | ok k ρ1 =>
          intro b H1 pk
          obtain ⟨F1', G, R1', nd', eb, eG⟩ := pk.st
          subst eb
          have pS := nS _ _ _ (pk.toS (pr := pr))
          cases k with
          | false =>
            cases hn
            rw [if_neg (by decide)]
            exact q σ H1 pS
          | true =>
            rw [if_pos rfl]
            simp only [] at hn
            refine ⟨fun σ' H' => ∃ ρ, PostS X.K X.mg pr F0 H0 σ0 ρ σ' H' ∧ whN fc fb n ρ = some r, fun σ' H' w => ⟨n, Nat.lt_succ_self n, w⟩, ?_⟩
            obtain ⟨F2, R2, nd2, nS2, nR2, nY2⟩ := pS.next
            refine ⟨ρ1, F2, R2, nd2, ?_⟩
            cases e2 : fb ρ1 with
            | none => rw [e2] at hn; cases hn
            | some r2 =>
              rw [e2] at hn
              cases r2 with
              | exc x ρ2 =>
                cases hn
                exact fun cls d σ' H' px => q cls d σ' H' (nY2 _ _ _ _ _ _ px)
              | ok fl ρ2 =>
                cases fl with
                | nx => exact fun σ' H' p2 => ⟨ρ2, nS2 _ _ _ p2, hn⟩
                | ct => exact fun σ' H' p2 => ⟨ρ2, nS2 _ _ _ p2, hn⟩
                | bk =>
                  cases hn
                  exact fun σ' H' p2 => q σ' H' (nS2 _ _ _ p2)
                | rt t =>
                  cases hn
                  exact fun v H' p2 => q v H' (nR2 _ _ _ _ p2)
end

/-! ### targets, and what is walked -/
section
variable (K : PySem.W.Frag) (mg : Str → Option Value) (pr : Nat → Bool)
def GT (g : T → M Unit) : TG := fun v σ H Q => ∃ t ρ F G, RelE K mg H σ ρ F ∧ Rep K mg H t v G ∧ (F ++ G).Nodup ∧
  match g t ρ with
  | some (.ok _ ρ') => ∀ σ' H', PostS K mg pr (F ++ G) H σ ρ' σ' H' → Q σ' H'
  | _ => False
def GTs (g : List T → M Unit) : TGs := fun vs σ H Q => ∃ ts ρ F, RelE K mg H σ ρ F ∧ F.Nodup ∧ Reps K mg H ts vs ∧
  match g ts ρ with
  | some (.ok _ ρ') => ∀ σ' H', PostS K mg pr F H σ ρ' σ' H' → Q σ' H'
  | _ => False
/-- a walk over the trees xs: lv the slots whose cells must stay, chk what must be true of the slots at each turn -/
def rIt (lv : List Nat) : Rl (List T × (List T → Bool)) It := fun H σ a J G => ∀ H' σ' ρ' F', RelE K mg H' σ' ρ' F' → (∀ x o, H x = some o → imm o = true → H' x = some o) → (∀ x o, x ∈ G → H x = some o → H' x = some o) → (∀ i, i ∈ lv → σ'[i]? = σ[i]?) → a.2 ρ' = true →
  (∀ (k : Nat) x, a.1[k]? = some x → J.go k H' ∧ ∀ v H'', J.yld k H' v H'' → New H' H'' [] ∧ Rep K mg H'' x v []) ∧ J.stop a.1.length H'
end
section
variable (X : Cx) (W : WX) (pr : Nat → Bool)
def FG (tg : Expr) (g : T → M Unit) : Prop := PG X tg (GT X.K X.mg pr g)
def FGs (tgs : List Expr) (g : List T → M Unit) : Prop := PGs X tgs (GTs X.K X.mg pr g)
def FI (tg iter : Expr) (lv : List Nat) (f : M (List T × (List T → Bool))) : Prop := PI X tg iter (RD X.K X.mg (rIt X.K X.mg lv) W f)
end
theorem PG.imp {X : Cx} {e : Expr} {t t' : TG} (h : PG X e t) (i : ∀ v σ H Q, t' v σ H Q → t v σ H Q) : PG X e t' := ⟨fun pins s σ H v u Q I r q => h.run pins s σ H v u Q I r (i v σ H Q q)⟩
theorem PGs.imp {X : Cx} {e : List Expr} {t t' : TGs} (h : PGs X e t) (i : ∀ v σ H Q, t' v σ H Q → t v σ H Q) : PGs X e t' := ⟨fun pins s σ H v u Q I r q => h.run pins s σ H v u Q I r (i v σ H Q q)⟩
theorem PI.imp {X : Cx} {tg e : Expr} {t t' : TI} (h : PI X tg e t) (i : ∀ σ H Q, t' σ H Q → t σ H Q) : PI X tg e t' := ⟨fun pins s σ H Q I q => h.run pins s σ H Q I (i σ H Q q)⟩
section
variable {X : Cx} {W : WX} {pr : Nat → Bool} {e : Expr} {es : List Expr} {pos : Pos}
def gSet (i : Nat) (t : T) : M Unit := fun ρ => if i < ρ.length then some (.ok () (ρ.set i t)) else none
theorem fg_name {i : Nat} {x : Str} (hN : X.N.Nodup) (hi : X.N[i]? = some x) (hx : Loc X.env.scope x) (hp : pr i = false := by rfl) (hf : X.fn x = true ∨ X.env.scope.names.lookup x = some .local := by first | exact .inl rfl | exact .inr rfl | assumption) : FG X pr (.Name x pos) (gSet i) :=
  PG.imp (pg_name hN hi hx hf) fun v σ H Q q => by
    obtain ⟨t, ρ, F, G, R, r, nd, k⟩ := q
    unfold gSet at k
    by_cases hl : i < ρ.length
    · rw [if_pos hl] at k
      obtain ⟨F2, R2, nd2, sub⟩ := R.store hl r nd
      exact k _ H ⟨F2, R2, nd2, fun x hx => .inl (List.mem_append.mpr (sub x hx)), Step.refl, Kept.set hp⟩
    · rw [if_neg hl] at k; exact k.elim
def gsNil (ts : List T) : M Unit := fun ρ => match ts with
  | [] => some (.ok () ρ)
  | _ :: _ => none
def gsCons (g : T → M Unit) (r : List T → M Unit) (ts : List T) : M Unit := fun ρ => match ts with
  | [] => none
  | t :: ts => (g t).bind (fun _ => r ts) ρ
theorem fgs_nil : FGs X pr [] gsNil := PGs.imp pgs_nil fun vs σ H Q q => by
  obtain ⟨ts, ρ, F, R, nd, rs, k⟩ := q
  cases rs with
  | nil => exact ⟨rfl, k σ H ⟨F, R, nd, fun x hx => .inl hx, Step.refl, Kept.refl⟩⟩
  | cons _ _ => exact k.elim
theorem fgs_cons {g : T → M Unit} {r : List T → M Unit} (h : FG X pr e g) (hr : FGs X pr es r) (hs : (assignEach (e :: es) X.env).map (·.2) = assign e X.env :: (assignEach es X.env).map (·.2) := by rfl) : FGs X pr (e :: es) (gsCons g r) :=
  PGs.imp (pgs_cons h hr hs) fun vs σ H Q q => by
    obtain ⟨ts, ρ, F, R, nd, rs, k⟩ := q
    cases rs with
    | nil => exact k.elim
    | cons r0 rs0 =>
      refine ⟨_, _, rfl, ?_⟩
      rename_i t ts v vs
      refine ⟨t, ρ, F, [], R, r0, by simpa using nd, ?_⟩
      simp only [gsCons] at k
      unfold M.bind at k
      cases e1 : g t ρ with
      | none => rw [e1] at k; exact k
      | some r1 =>
        rw [e1] at k
        cases r1 with
        | exc x ρ1 => exact k
        | ok u ρ1 =>
          intro σ1 H1 p
          rw [List.append_nil] at p
          have rs1 : Reps X.K X.mg H1 ts vs := by
            obtain ⟨_, _, _, _, st, _⟩ := p
            exact rs0.stay st.ext
          obtain ⟨F1, R1, nd1, nS, _, _⟩ := p.next
          refine ⟨ts, ρ1, F1, R1, nd1, rs1, ?_⟩
          simp only [] at k
          cases e2 : r ts ρ1 with
          | none => rw [e2] at k; exact k
          | some r2 =>
            rw [e2] at k
            cases r2 with
            | exc x ρ2 => exact k
            | ok u2 ρ2 => exact fun σ2 H2 p2 => k σ2 H2 (nS _ _ _ p2)
/-- (a, b) = a tuple of that length -/
def gTup (n : Nat) (r : List T → M Unit) (t : T) : M Unit := fun ρ => match t with
  | .tup ts => if ts.length = n then r ts ρ else none
  | _ => none
theorem fg_tup {k n : Nat} {r : List T → M Unit} (hc : X.calm = true) (h : FGs X pr es r) (hn : (assignEach es X.env).length = n := by rfl) (hst : (assignEach es X.env).findIdx? (·.1) = none := by rfl) : FG X pr (.Tuple es k pos) (gTup n r) :=
  PG.imp (pg_tup hc h hn hst) fun v σ H Q q => by
    obtain ⟨t, ρ, F, G, R, rt, nd, k⟩ := q
    cases rt with
    | tup hs rs =>
      simp only [gTup] at k
      rename_i a xs ts
      by_cases hl : ts.length = n
      · rw [if_pos hl] at k
        exact ⟨a, xs, rfl, hs, by rw [← rs.length]; exact hl, ts, ρ, F, R, by simpa using nd, rs, by simpa using k⟩
      · rw [if_neg hl] at k; exact k.elim
    | _ => exact k.elim
/-- for -/
def forL (chk : List T → Bool) (g : T → M Unit) (b : M Fl) : List T → M Fl
  | [] => fun ρ => if chk ρ = true then some (.ok .nx ρ) else none
  | x :: xs => fun ρ => if chk ρ = true then (match g x ρ with
      | some (.ok _ ρ1) => (match b ρ1 with
        | none => none
        | some (.exc e ρ2) => some (.exc e ρ2)
        | some (.ok .nx ρ2) => forL chk g b xs ρ2
        | some (.ok .ct ρ2) => forL chk g b xs ρ2
        | some (.ok .bk ρ2) => some (.ok .nx ρ2)
        | some (.ok (.rt t) ρ2) => some (.ok (.rt t) ρ2))
      | _ => none) else none
def sFor (src : M (List T × (List T → Bool))) (g : T → M Unit) (b : M Fl) : M Fl := src.bind fun p => forL p.2 g b p.1
def prL (pr : Nat → Bool) (lv : List Nat) : Nat → Bool := fun i => pr i || lv.contains i
theorem fs_for {tg iter : Expr} {body : List Stmt} {lv : List Nat} {src : M (List T × (List T → Bool))} {g : T → M Unit} {b : M Fl} (hp : PassesOwn (model X.prog X.w) X.A X.env X.xe) (hc : X.calm = true) (hi : FI X W tg iter lv src) (hg : FG X (prL pr lv) tg g) (hb : FSs X W (prL pr lv) body b)
    (hs : ∀ x, foldedSetIterable iter X.env x = pure x := by intro _; rfl) : FS X W pr (.For tg iter body [] pos) (sFor src g b) := PS.imp (ps_for hp hc hi hg hb hs) fun D σ0 H0 q => by
  refine RS.of q fun a ρ1 J H1 F p k => ?_
  obtain ⟨xs, chk⟩ := a
  obtain ⟨F1, G1, R1, it, nd1, fr1, s1⟩ := p
  obtain ⟨nF1, nG1, dis⟩ := List.nodup_append.mp nd1
  -- all ends of the loop, from its start
  have toP : ∀ {σ : St} {H : Hp} {ρ : List T}, PostS X.K X.mg (prL pr lv) F1 H1 σ0 ρ σ H → PostS X.K X.mg pr F H0 σ0 ρ σ H := fun ⟨F2, R2, nd2, fr2, s2, k2⟩ => by
    refine ⟨F2, R2, nd2, fun x hx => ?_, s1.trans s2 fun x hx => fr1 x (List.mem_append_left _ hx), ⟨k2.1, fun i hi => k2.2 i (by simp [prL, hi])⟩⟩
    rcases fr2 x hx with z | z
    · exact fr1 x (List.mem_append_left _ z)
    · by_cases hF : x ∈ F
      · exact .inl hF
      · exact .inr (s1.fresh hF z)
  refine ⟨fun i m σ H => ∃ ρ, PostS X.K X.mg (prL pr lv) F1 H1 σ0 ρ σ H ∧ m = xs.length - i ∧ i ≤ xs.length ∧ (match forL chk g b (xs.drop i) ρ with
      | some (.ok fl ρ') => (match fl with
        | .nx => ∀ σ' H', PostS X.K X.mg pr F H0 σ0 ρ' σ' H' → D.nx σ' H'
        | .bk => ∀ σ' H', PostS X.K X.mg pr F H0 σ0 ρ' σ' H' → D.bk σ' H'
        | .ct => ∀ σ' H', PostS X.K X.mg pr F H0 σ0 ρ' σ' H' → D.ct σ' H'
        | .rt t => ∀ v H', PostR X.K X.mg pr F H0 σ0 t ρ' v H' → D.rt v H')
      | some (.exc e ρ') => ∀ cls d σ' H', PostY X.K X.mg pr F H0 σ0 e ρ' cls d σ' H' → W cls d σ' H'
      | none => False), ⟨xs.length, ρ1, ⟨F1, R1, nF1, fun x hx => .inl hx, Step.refl, Kept.refl⟩, rfl, Nat.zero_le _, k⟩, fun i m σ H ⟨ρ, pS, hm, hi, hk⟩ => ?_⟩
  have stable : ∀ {ρ' : List T} {σ' : St} {H' : Hp}, PostS X.K X.mg (prL pr lv) F1 H1 σ0 ρ' σ' H' → chk ρ' = true → (∀ (k : Nat) x, xs[k]? = some x → J.go k H' ∧ ∀ v H'', J.yld k H' v H'' → New H' H'' [] ∧ Rep X.K X.mg H'' x v []) ∧ J.stop xs.length H' := fun {ρ' σ' H'} ⟨F2, R2, nd2, fr2, s2, k2⟩ hc' =>
    it H' σ' ρ' F2 R2 s2.ext (fun x o hx e => s2.keep x o e fun z => dis x z x hx rfl) (fun j hj => k2.2 j (by simp [prL, hj])) hc'
  by_cases hlt : i < xs.length
  · -- a turn
    have ed : xs.drop i = xs[i] :: xs.drop (i + 1) := List.drop_eq_getElem_cons hlt
    rw [ed] at hk
    unfold forL at hk
    by_cases hck : chk ρ = true
    · rw [if_pos hck] at hk
      obtain ⟨turns, _⟩ := stable pS hck
      obtain ⟨hgo, hy⟩ := turns i xs[i] (List.getElem?_eq_getElem hlt)
      refine .inr ⟨hgo, fun σ' H' => ∃ ρ', PostS X.K X.mg (prL pr lv) F1 H1 σ0 ρ' σ' H' ∧ (match forL chk g b (xs.drop (i + 1)) ρ' with
        | some (.ok fl ρ') => (match fl with
          | .nx => ∀ σ' H', PostS X.K X.mg pr F H0 σ0 ρ' σ' H' → D.nx σ' H'
          | .bk => ∀ σ' H', PostS X.K X.mg pr F H0 σ0 ρ' σ' H' → D.bk σ' H'
          | .ct => ∀ σ' H', PostS X.K X.mg pr F H0 σ0 ρ' σ' H' → D.ct σ' H'
          | .rt t => ∀ v H', PostR X.K X.mg pr F H0 σ0 t ρ' v H' → D.rt v H')
        | some (.exc e ρ') => ∀ cls d σ' H', PostY X.K X.mg pr F H0 σ0 e ρ' cls d σ' H' → W cls d σ' H'
        | none => False), fun σ' H' ⟨ρ', p', k'⟩ => ⟨xs.length - (i + 1), by omega, ρ', p', rfl, hlt, k'⟩, fun v H' y => ?_⟩
      obtain ⟨nw, rx⟩ := hy v H' y
      obtain ⟨F2, R2, nd2, nS2, nR2, nY2⟩ := pS.next
      refine ⟨xs[i], ρ, F2, [], R2.same nw.same, rx, by simpa using nd2, ?_⟩
      cases e1 : g xs[i] ρ with
      | none => rw [e1] at hk; exact hk
      | some r1 =>
        rw [e1] at hk
        cases r1 with
        | exc x ρ2 => exact hk
        | ok u ρ2 =>
          intro σ3 H3 p3
          rw [List.append_nil] at p3
          have p3' : PostS X.K X.mg (prL pr lv) F1 H1 σ0 ρ2 σ3 H3 := by
            refine nS2 ρ2 σ3 H3 ?_
            obtain ⟨F3, R3, nd3, fr3, s3, k3⟩ := p3
            refine ⟨F3, R3, nd3, fun x hx => ?_, (Step.same (F := F2) nw.same).trans s3 fun x hx => .inl hx, k3⟩
            rcases fr3 x hx with z | z
            · exact .inl z
            · exact .inr (nw.same.free z)
          obtain ⟨F4, R4, nd4, nS4, nR4, nY4⟩ := p3'.next
          refine ⟨ρ2, F4, R4, nd4, ?_⟩
          simp only [] at hk
          have wide : ∀ {ρ5 : List T} {σ5 : St} {H5 : Hp}, PostS X.K X.mg (prL pr lv) F4 H3 σ3 ρ5 σ5 H5 → PostS X.K X.mg (prL pr lv) F1 H1 σ0 ρ5 σ5 H5 := fun p5 => nS4 _ _ _ p5
          cases e2 : b ρ2 with
          | none => rw [e2] at hk; exact hk
          | some r2 =>
            rw [e2] at hk
            cases r2 with
            | exc x ρ5 =>
              refine fun cls d σ5 H5 p5 => hk cls d σ5 H5 ?_
              obtain ⟨F5, R5, nd5, fr5, s5, k5, x5⟩ := nY4 _ _ _ _ _ _ p5
              obtain ⟨F6, R6, nd6, fr6, s6, k6⟩ := toP ⟨F5, R5, nd5, fr5, s5, k5⟩
              exact ⟨F5, R5, nd5, fun x hx => by
                rcases fr5 x hx with z | z
                · exact fr1 x (List.mem_append_left _ z)
                · by_cases hF : x ∈ F
                  · exact .inl hF
                  · exact .inr (s1.fresh hF z), s6, k6, x5⟩
            | ok fl ρ5 =>
              cases fl with
              | nx => exact fun σ5 H5 p5 => ⟨ρ5, wide p5, hk⟩
              | ct => exact fun σ5 H5 p5 => ⟨ρ5, wide p5, hk⟩
              | bk => exact fun σ5 H5 p5 => hk σ5 H5 (toP (wide p5))
              | rt t =>
                refine fun v5 H5 p5 => hk v5 H5 ?_
                obtain ⟨σ5, F5, G5, R5, r5, nd5, fr5, s5, k5⟩ := nR4 _ _ _ _ p5
                refine ⟨σ5, F5, G5, R5, r5, nd5, fun x hx => ?_, s1.trans s5 fun x hx => fr1 x (List.mem_append_left _ hx), ⟨k5.1, fun j hj => k5.2 j (by simp [prL, hj])⟩⟩
                rcases fr5 x hx with z | z
                · exact fr1 x (List.mem_append_left _ z)
                · by_cases hF : x ∈ F
                  · exact .inl hF
                  · exact .inr (s1.fresh hF z)
    · rw [if_neg hck] at hk; exact hk.elim
  · -- the end
    have ei : i = xs.length := by omega
    subst ei
    rw [List.drop_length] at hk
    unfold forL at hk
    by_cases hck : chk ρ = true
    · rw [if_pos hck] at hk
      obtain ⟨_, hstop⟩ := stable pS hck
      exact .inl ⟨hstop, hk σ H (toP pS)⟩
    · rw [if_neg hck] at hk; exact hk.elim
end
end FL
/-! FL4: what is walked, displays, comprehensions, lists changed, calls of defs, a def's body -/
namespace FL
open PySem PySem.Spec L2

/-! ### equality of trees -/
mutual
def T.beq : T → T → Bool
  | .unb, .unb => true
  | .non, .non => true
  | .bl a, .bl b => a == b
  | .int a, .int b => a == b
  | .str a, .str b => decide (a = b)
  | .tup a, .tup b => T.beqL a b
  | .fro a, .fro b => T.beqL a b
  | .scr a, .scr b => T.beqL a b
  | .lst a, .lst b => T.beqL a b
  | .dK a, .dK b => T.beqK a b
  | .dT a, .dT b => T.beqT a b
  | .ins c a, .ins d b => decide (c = d) && T.beqF a b
  | _, _ => false
def T.beqL : List T → List T → Bool
  | [], [] => true
  | x :: xs, y :: ys => T.beq x y && T.beqL xs ys
  | _, _ => false
def T.beqK : List (Key × T) → List (Key × T) → Bool
  | [], [] => true
  | (k, x) :: xs, (l, y) :: ys => decide (k = l) && T.beq x y && T.beqK xs ys
  | _, _ => false
def T.beqT : List (List Key × T) → List (List Key × T) → Bool
  | [], [] => true
  | (k, x) :: xs, (l, y) :: ys => decide (k = l) && T.beq x y && T.beqT xs ys
  | _, _ => false
def T.beqF : List (Str × T) → List (Str × T) → Bool
  | [], [] => true
  | (k, x) :: xs, (l, y) :: ys => decide (k = l) && T.beq x y && T.beqF xs ys
  | _, _ => false
end
mutual
theorem T.beq_eq : ∀ {a b : T}, T.beq a b = true → a = b
  | .unb, b, h => by cases b <;> first | rfl | (simp [T.beq] at h)
  | .non, b, h => by cases b <;> first | rfl | (simp [T.beq] at h)
  | .bl a, b, h => by cases b <;> simp [T.beq] at h; rw [h]
  | .int a, b, h => by cases b <;> simp [T.beq] at h; rw [h]
  | .str a, b, h => by cases b <;> simp [T.beq] at h; rw [h]
  | .tup a, b, h => by cases b <;> simp [T.beq] at h; rw [T.beqL_eq h]
  | .fro a, b, h => by cases b <;> simp [T.beq] at h; rw [T.beqL_eq h]
  | .scr a, b, h => by cases b <;> simp [T.beq] at h; rw [T.beqL_eq h]
  | .lst a, b, h => by cases b <;> simp [T.beq] at h; rw [T.beqL_eq h]
  | .dK a, b, h => by cases b <;> simp [T.beq] at h; rw [T.beqK_eq h]
  | .dT a, b, h => by cases b <;> simp [T.beq] at h; rw [T.beqT_eq h]
  | .ins c a, b, h => by cases b <;> simp [T.beq] at h; rw [h.1, T.beqF_eq h.2]
theorem T.beqL_eq : ∀ {a b : List T}, T.beqL a b = true → a = b
  | [], b, h => by cases b <;> first | rfl | (simp [T.beqL] at h)
  | x :: xs, b, h => by cases b <;> simp [T.beqL] at h; rw [T.beq_eq h.1, T.beqL_eq h.2]
theorem T.beqK_eq : ∀ {a b : List (Key × T)}, T.beqK a b = true → a = b
  | [], b, h => by cases b <;> first | rfl | (simp [T.beqK] at h)
  | (k, x) :: xs, [], h => by simp [T.beqK] at h
  | (k, x) :: xs, (l, y) :: ys, h => by simp [T.beqK] at h; rw [h.1.1, T.beq_eq h.1.2, T.beqK_eq h.2]
theorem T.beqT_eq : ∀ {a b : List (List Key × T)}, T.beqT a b = true → a = b
  | [], b, h => by cases b <;> first | rfl | (simp [T.beqT] at h)
  | (k, x) :: xs, [], h => by simp [T.beqT] at h
  | (k, x) :: xs, (l, y) :: ys, h => by simp [T.beqT] at h; rw [h.1.1, T.beq_eq h.1.2, T.beqT_eq h.2]
theorem T.beqF_eq : ∀ {a b : List (Str × T)}, T.beqF a b = true → a = b
  | [], b, h => by cases b <;> first | rfl | (simp [T.beqF] at h)
  | (k, x) :: xs, [], h => by simp [T.beqF] at h
  | (k, x) :: xs, (l, y) :: ys, h => by simp [T.beqF] at h; rw [h.1.1, T.beq_eq h.1.2, T.beqF_eq h.2]
end
mutual
theorem T.beq_self : ∀ a : T, T.beq a a = true
  | .unb => by simp [T.beq]
  | .non => by simp [T.beq]
  | .bl a => by simp [T.beq]
  | .int a => by simp [T.beq]
  | .str a => by simp [T.beq]
  | .tup a => by simp [T.beq, T.beqL_self a]
  | .fro a => by simp [T.beq, T.beqL_self a]
  | .scr a => by simp [T.beq, T.beqL_self a]
  | .lst a => by simp [T.beq, T.beqL_self a]
  | .dK a => by simp [T.beq, T.beqK_self a]
  | .dT a => by simp [T.beq, T.beqT_self a]
  | .ins c a => by simp [T.beq, T.beqF_self a]
theorem T.beqL_self : ∀ a : List T, T.beqL a a = true
  | [] => by simp [T.beqL]
  | x :: xs => by simp [T.beqL, T.beq_self x, T.beqL_self xs]
theorem T.beqK_self : ∀ a : List (Key × T), T.beqK a a = true
  | [] => by simp [T.beqK]
  | (k, x) :: xs => by simp [T.beqK, T.beq_self x, T.beqK_self xs]
theorem T.beqT_self : ∀ a : List (List Key × T), T.beqT a a = true
  | [] => by simp [T.beqT]
  | (k, x) :: xs => by simp [T.beqT, T.beq_self x, T.beqT_self xs]
theorem T.beqF_self : ∀ a : List (Str × T), T.beqF a a = true
  | [] => by simp [T.beqF]
  | (k, x) :: xs => by simp [T.beqF, T.beq_self x, T.beqF_self xs]
end

/-! ### what is walked -/
section
variable {X : Cx} {W : WX} {pr : Nat → Bool} {e : Expr} {es : List Expr} {pos p : Pos} {tg : Expr}
/-- a list or a tuple -/
def iSeq (K : PySem.W.Frag) (tl : TE) : TI := fun σ H R => tl σ H fun x H1 => ∃ a, x = .ref a ∧ (((∃ xs, SqL K H1 a xs) ∧ R (Itl K a) H1) ∨ ((∃ xs, SqT K H1 a xs) ∧ R (Itt K a) H1))
theorem pi_seq {l : Expr} {tl : TE} (hl : PE X l tl) : PI X tg l (iSeq X.K tl) := by
  refine ⟨fun pins s σ H R I h => ?_⟩
  refine thn (hl.run pins s σ H _ I h) fun v s1 ⟨x, H1, I1, r1, q1⟩ => ?_
  obtain ⟨a, e, q⟩ := q1
  subst e
  cases r1
  rcases q with ⟨⟨xs, hq⟩, q⟩ | ⟨⟨xs, hq⟩, q⟩
  · obtain ⟨its, rv, p, hz⟩ := I1.list hq
    refine wpAny_pyIter_list p.isList ?_
    refine ⟨s1.heap.objs.size, [s1.heap.objs.size], _, _, H1, rfl, I1.kept (t' := s1.toks) fun b o e => Heap.get?_push_of_some _ e, turn_list a _, ⟨_, Heap.get?_push_size _ rfl, rfl, rfl⟩, fun b hb => ?_, q⟩
    have e : b = s1.heap.objs.size := by simpa using hb
    subst e
    exact I1.fpOk (Nat.le_refl _) (I1.hok.fresh (Nat.le_refl _))
  · obtain ⟨its, rv, p, hz⟩ := I1.tuple hq
    refine wpAny_pyIter_tuple (show s1.heap.IsTuple a its.toArray from p) ?_
    refine ⟨s1.heap.objs.size, [s1.heap.objs.size], _, _, H1, rfl, I1.kept (t' := s1.toks) fun b o e => Heap.get?_push_of_some _ e, turn_tuple a _, ⟨_, Heap.get?_push_size _ rfl, rfl, rfl⟩, fun b hb => ?_, q⟩
    have e : b = s1.heap.objs.size := by simpa using hb
    subst e
    exact I1.fpOk (Nat.le_refl _) (I1.hok.fresh (Nat.le_refl _))
def chk1 (_ : List T) : Bool := true
def chkL (i : Nat) (xs : List T) (ρ : List T) : Bool := T.beq (ρ.getD i .unb) (.lst xs)
/-- the items of an operand, and what must stay true of the slots while they are walked -/
def seqM (lv : List Nat) (h : Hd) : M (List T × (List T → Bool)) := fun ρ => match res ρ h with
  | .tup xs => some (.ok (xs, chk1) ρ)
  | .fro xs => some (.ok (xs, chk1) ρ)
  | .scr xs => some (.ok (xs, chk1) ρ)
  | .lst xs => match h with
    | .tm _ => some (.ok (xs, chk1) ρ)
    | .pl i => if i ∈ lv then some (.ok (xs, chkL i xs) ρ) else none
  | _ => none
def srcSeq (lv : List Nat) (o : M Hd) : M (List T × (List T → Bool)) := o.bind (seqM lv)
theorem itl_ok {K : PySem.W.Frag} {mg : Str → Option Value} {H : Hp} {a : Addr} {xs : List V} {ts : List T} (hq : SqL K H a xs) (r : Reps K mg H ts xs) :
    (∀ (k : Nat) x, ts[k]? = some x → (Itl K a).go k H ∧ ∀ v H'', (Itl K a).yld k H v H'' → New H H'' [] ∧ Rep K mg H'' x v []) ∧ (Itl K a).stop ts.length H := by
  refine ⟨fun k x hx => ?_, ⟨xs, hq, by rw [r.length]; exact Nat.le_refl _⟩⟩
  obtain ⟨v, hv, rv⟩ := r.get hx
  refine ⟨⟨xs, v, hq, hv⟩, fun v' H'' ⟨e, h⟩ => ?_⟩
  subst e
  have e2 := (h xs hq).symm.trans hv
  cases e2
  exact ⟨New.refl, rv⟩
theorem itt_ok {K : PySem.W.Frag} {mg : Str → Option Value} {H : Hp} {a : Addr} {xs : List V} {ts : List T} (hq : SqT K H a xs) (r : Reps K mg H ts xs) :
    (∀ (k : Nat) x, ts[k]? = some x → (Itt K a).go k H ∧ ∀ v H'', (Itt K a).yld k H v H'' → New H H'' [] ∧ Rep K mg H'' x v []) ∧ (Itt K a).stop ts.length H := by
  refine ⟨fun k x hx => ?_, ⟨xs, hq, by rw [r.length]; exact Nat.le_refl _⟩⟩
  obtain ⟨v, hv, rv⟩ := r.get hx
  refine ⟨⟨xs, v, hq, hv⟩, fun v' H'' ⟨e, h⟩ => ?_⟩
  subst e
  have e2 := (h xs hq).symm.trans hv
  cases e2
  exact ⟨New.refl, rv⟩
theorem fi_seq {lv : List Nat} {o : M Hd} (h : FO X W e o) : FI X W tg e lv (srcSeq lv o) := PI.imp (pi_seq h) fun σ H R q => by
  refine RD.fin (rel := rH X.K X.mg) q fun hd ρ1 v H1 F p k => ?_
  unfold seqM at k
  obtain ⟨F1, G1, R1, r1, nd1, fr1, s1⟩ := p
  -- the operand's own tree and how it lies
  cases hd with
  | tm t =>
    have r1 : Rep X.K X.mg H1 t v G1 := r1
    simp only [res] at k
    cases r1 with
    | @tup a xs ts hs rs =>
      exact ⟨a, rfl, .inr ⟨⟨xs, hs⟩, k _ H1 ⟨F1, [], R1, fun H' σ' ρ' F' R' ex _ _ _ => itt_ok (SqT.ext hs ex) (rs.stay ex), nd1, fr1, s1⟩⟩⟩
    | @fro a xs ts hs rs =>
      exact ⟨a, rfl, .inl ⟨⟨xs, hs.sq⟩, k _ H1 ⟨F1, [], R1, fun H' σ' ρ' F' R' ex _ _ _ => itl_ok (FrL.ext hs ex).sq (rs.stay ex), nd1, fr1, s1⟩⟩⟩
    | @scr a xs ts hs rs =>
      exact ⟨a, rfl, .inl ⟨⟨xs, hs.sq⟩, k _ H1 ⟨F1, [], R1, fun H' σ' ρ' F' R' ex _ _ _ => itl_ok hs.sq (rs.stay ex), nd1, fr1, s1⟩⟩⟩
    | @lst a xs ts hs rs =>
      refine ⟨a, rfl, .inl ⟨⟨xs, SqL.of hs⟩, k _ H1 ⟨F1, [a], R1, fun H' σ' ρ' F' R' ex g _ _ => itl_ok (SqL.of (g a _ (by simp) hs)) (rs.stay ex), nd1, fr1, s1⟩⟩⟩
    | _ => exact k.elim
  | pl i =>
    obtain ⟨hs, eG⟩ := r1
    subst eG
    simp only [res] at k
    cases hu : isU (ρ1.getD i .unb) with
    | true =>
      cases e2 : ρ1.getD i .unb <;> rw [e2] at hu k <;> first | exact k.elim | cases hu
    | false =>
      have e0 := getD_some hu
      obtain ⟨v', G', hs', r, _⟩ := R1.get e0 (isU_ne hu)
      have ev : v' = v := by
        have e3 := hs'.symm.trans hs
        injection e3 with e3; injection e3
      subst ev
      generalize ρ1.getD i .unb = t at *
      cases r with
      | @tup a xs ts hq rs =>
        exact ⟨a, rfl, .inr ⟨⟨xs, hq⟩, k _ H1 ⟨F1, [], R1, fun H' σ' ρ' F' R' ex _ _ _ => itt_ok (SqT.ext hq ex) (rs.stay ex), nd1, fr1, s1⟩⟩⟩
      | @fro a xs ts hq rs =>
        exact ⟨a, rfl, .inl ⟨⟨xs, hq.sq⟩, k _ H1 ⟨F1, [], R1, fun H' σ' ρ' F' R' ex _ _ _ => itl_ok (FrL.ext hq ex).sq (rs.stay ex), nd1, fr1, s1⟩⟩⟩
      | @scr a xs ts hq rs =>
        exact ⟨a, rfl, .inl ⟨⟨xs, hq.sq⟩, k _ H1 ⟨F1, [], R1, fun H' σ' ρ' F' R' ex _ _ _ => itl_ok hq.sq (rs.stay ex), nd1, fr1, s1⟩⟩⟩
      | @lst a xs ts hq rs =>
        simp only [] at k
        by_cases hi : i ∈ lv
        · rw [if_pos hi] at k
          refine ⟨a, rfl, .inl ⟨⟨xs, SqL.of hq⟩, k _ H1 ⟨F1, [], R1, fun H' σ' ρ' F' R' ex _ lvs ck => ?_, nd1, fr1, s1⟩⟩⟩
          have e4 : ρ'.getD i .unb = .lst ts := T.beq_eq ck
          have e5 : ρ'[i]? = some (.lst ts) := by
            have z := getD_some (ρ := ρ') (i := i) (by rw [e4]; rfl)
            rw [e4] at z; exact z
          obtain ⟨v2, G2, h2, r2, _⟩ := R'.get e5 (fun z => by cases z)
          have ev2 : v2 = .ref a := by
            have e6 := h2.symm.trans ((lvs i hi).trans hs)
            injection e6 with e6; injection e6
          subst ev2
          cases r2 with
          | lst hq2 rs2 => exact itl_ok (SqL.of hq2) rs2
        · rw [if_neg hi] at k; exact k.elim
      | _ => exact k.elim
end
end FL
/-! FL5: ranges, displays, comprehensions, calls of defs, a def's body -/
namespace FL
open PySem PySem.Spec L2

section
variable {X : Cx} {W : WX} {pr : Nat → Bool} {e a b : Expr} {es : List Expr} {pos p : Pos} {tg : Expr} {K : PySem.W.Frag} {mg : Str → Option Value}
/-! ### ranges -/
def rangeT (lo : Int) (n : Nat) : List T := (List.range n).map fun i => .int (lo + (i : Nat))
theorem itr_ok {H : Hp} {lo : Int} {n : Nat} : (∀ (k : Nat) x, (rangeT lo n)[k]? = some x → (Itr lo n).go k H ∧ ∀ v H'', (Itr lo n).yld k H v H'' → New H H'' [] ∧ Rep K mg H'' x v []) ∧ (Itr lo n).stop (rangeT lo n).length H := by
  refine ⟨fun k x hx => ?_, by show n ≤ _; simp [rangeT]⟩
  have hk : k < n := by
    have := (List.getElem?_eq_some_iff.mp hx).1
    simpa [rangeT] using this
  have ex : x = .int (lo + (k : Nat)) := by
    simp [rangeT, hk] at hx
    exact hx.symm
  refine ⟨hk, fun v H'' ⟨e1, e2⟩ => ?_⟩
  subst e1 e2 ex
  exact ⟨New.refl, .int _⟩
def big62 (j : Int) : Bool := decide (-(2 ^ 62) ≤ j) && decide (j < 2 ^ 62)
def rng1M (hs : List Hd) : M (List T × (List T → Bool)) := fun ρ => match resL ρ hs with
  | some [.int j] => if big62 j = true then some (.ok (rangeT 0 j.toNat, chk1) ρ) else none
  | _ => none
def rng2M (hs : List Hd) : M (List T × (List T → Bool)) := fun ρ => match resL ρ hs with
  | some [.int i, .int j] => if (big62 i && big62 j) = true then some (.ok (rangeT i (j - i).toNat, chk1) ρ) else none
  | _ => none
def srcRange1 (a : M (List Hd)) : M (List T × (List T → Bool)) := a.bind rng1M
def srcRange2 (a : M (List Hd)) : M (List T × (List T → Bool)) := a.bind rng2M
theorem fi_range1 {lv : List Nat} {fa : M (List Hd)} (hg : Gl X "range") (hm : X.mg "range" = none) (ha : FA X W [a] fa) (hs : starEach [a] X.env = [(false, eval a X.env)] := by rfl) : FI X W tg (.Call (.Name "range" p) [a] [] pos) lv (srcRange1 fa) :=
  PI.imp (pi_range1 hg hm ha hs) fun σ H R q => by
    refine RD.fin (rel := rL (rH X.K X.mg)) q fun hd ρ1 vs H1 F p k => ?_
    unfold rng1M at k
    obtain ⟨F1, G, R1, nd1, r1⟩ := p.st
    cases e1 : resL ρ1 hd with
    | none => rw [e1] at k; exact k.elim
    | some ts =>
      rw [e1] at k
      have rr := resL_rep R1 r1 e1
      cases rr with
      | nil => exact k.elim
      | cons r0 rs =>
        cases rs with
        | cons _ _ => exact (by cases r0 <;> exact k.elim)
        | nil =>
          cases r0 with
          | int j =>
            simp only [] at k
            by_cases hb : big62 j = true
            · rw [if_pos hb] at k
              unfold big62 at hb
              rw [Bool.and_eq_true, decide_eq_true_eq, decide_eq_true_eq] at hb
              exact ⟨j, rfl, hb.1, hb.2, k _ H1 (p.new New.refl fun _ _ _ _ _ _ _ _ _ => itr_ok)⟩
            · rw [if_neg hb] at k; exact k.elim
          | _ => exact k.elim
theorem fi_range2 {lv : List Nat} {fa : M (List Hd)} (hg : Gl X "range") (hm : X.mg "range" = none) (ha : FA X W [a, b] fa) (hs : starEach [a, b] X.env = [(false, eval a X.env), (false, eval b X.env)] := by rfl) (hs2 : starEach [b] X.env = [(false, eval b X.env)] := by rfl) :
    FI X W tg (.Call (.Name "range" p) [a, b] [] pos) lv (srcRange2 fa) :=
  PI.imp (pi_range2 hg hm ha hs hs2) fun σ H R q => by
    refine RD.fin (rel := rL (rH X.K X.mg)) q fun hd ρ1 vs H1 F p k => ?_
    unfold rng2M at k
    obtain ⟨F1, G, R1, nd1, r1⟩ := p.st
    cases e1 : resL ρ1 hd with
    | none => rw [e1] at k; exact k.elim
    | some ts =>
      rw [e1] at k
      have rr := resL_rep R1 r1 e1
      cases rr with
      | nil => exact k.elim
      | cons r0 rs =>
        cases rs with
        | nil => exact (by cases r0 <;> exact k.elim)
        | cons r2 rs =>
          cases rs with
          | cons _ _ => exact (by cases r0 <;> cases r2 <;> exact k.elim)
          | nil =>
            cases r0 with
            | int i =>
              cases r2 with
              | int j =>
                simp only [] at k
                by_cases hb : (big62 i && big62 j) = true
                · rw [if_pos hb] at k
                  unfold big62 at hb
                  simp only [Bool.and_eq_true, decide_eq_true_eq] at hb
                  exact ⟨i, j, rfl, ⟨hb.1.1, hb.1.2, hb.2.1, hb.2.2⟩, k _ H1 (p.new New.refl fun _ _ _ _ _ _ _ _ _ => itr_ok)⟩
                · rw [if_neg hb] at k; exact k.elim
              | _ => exact k.elim
            | _ => exact (by cases r2 <;> exact k.elim)

/-! ### a list of one's own becomes one that never changes -/
def frzT : T → T
  | .lst ts => .fro ts
  | t => t
def fFrz (f : M T) : M T := f.bind fun t => M.pure (frzT t)
theorem Inv.freeze {pins : List (Addr × Obj)} {σ : St} {H : Hp} {s : Shared} {l : Addr} {xs : List V} (I : Inv X pins σ H s) (h : H l = some (.lst xs)) : ∃ o, Inv X pins σ (upd H l (.frz o (.lst xs))) s := by
  obtain ⟨z, its, n, r, e⟩ := I.hok l _ h
  refine ⟨_, I.write (t' := s.toks) (h' := s.heap) (x := l) (e := l) (o := .frz _ (.lst xs)) (by rw [h]; trivial) (.inl rfl) (fun b u _ q => q) ⟨_, e⟩ ⟨e, z, its, n, r, e⟩⟩
theorem fe_frz {f : M T} (h : FE X W e f) : FE X W e (fFrz f) := by
  refine ⟨fun pins s σ H Q I q => ?_⟩
  have q1 : RD X.K X.mg (rV X.K X.mg) W f σ H fun v H' => (∃ a xs, v = .ref a ∧ H' a = some (.lst xs) ∧ ∀ o, Q v (upd H' a (.frz o (.lst xs)))) ∨ Q v H' := by
    refine RD.fin (rel := rV X.K X.mg) q fun t ρ1 v H1 F p k => ?_
    have k : ∀ d H2, Post X.K X.mg (rV X.K X.mg) F H σ (frzT t) ρ1 d H2 → Q d H2 := k
    by_cases ht : ∃ ts, t = .lst ts
    · obtain ⟨ts, rfl⟩ := ht
      obtain ⟨F1, G, R1, r, nd, fr, s1⟩ := p
      cases (show Rep X.K X.mg H1 (.lst ts) v G from r) with
      | @lst a xs _ hs rs =>
        refine .inl ⟨a, xs, rfl, hs, fun o => k _ _ ?_⟩
        have na : a ∉ F1 := fun z => (List.nodup_append.mp nd).2.2 a z a (by simp) rfl
        have ex : ∀ b u, H1 b = some u → imm u = true → (upd H1 a (.frz o (.lst xs))) b = some u := fun b u e i => by
          have : b ≠ a := fun z => by rw [z, hs] at e; cases e; cases i
          rw [upd_ne this]; exact e
        have kp : ∀ b u, H1 b = some u → b ∉ [a] → (upd H1 a (.frz o (.lst xs))) b = some u := fun b u e n => by rw [upd_ne (by simpa using n)]; exact e
        have st : Step [a] H1 (upd H1 a (.frz o (.lst xs))) := ⟨kp, ex⟩
        refine ⟨F1, [], R1.step st fun b hb z => na (by simp at z; subst z; exact hb), .fro ⟨o, upd_same⟩ (rs.stay ex), by simpa using (List.nodup_append.mp nd).1, fun x hx => fr x (List.mem_append_left _ (by simpa using hx)), s1.trans st fun x hx => fr x (List.mem_append_right _ hx)⟩
    · have ef : frzT t = t := by cases t <;> first | rfl | exact absurd ⟨_, rfl⟩ ht
      rw [ef] at k
      exact .inr (k _ _ p)
  refine thn (h.run pins s σ H _ I q1) fun u s1 ⟨v, H1, I1, r, qq⟩ => ?_
  rcases qq with ⟨a, xs, rfl, hs, k⟩ | k
  · obtain ⟨o, I2⟩ := Inv.freeze I1 hs
    exact ⟨_, _, I2, r, k o⟩
  · exact ⟨v, H1, I1, r, k⟩

/-! ### displays -/
theorem RepA.pure {H : Hp} : ∀ {ts : List T} {vs : List V}, RepA K mg H ts vs → ts.all pureT = true → Reps K mg H ts vs
  | _, _, .nil, _ => .nil
  | _, _, .cons r rs, h => by
    rw [List.all_cons, Bool.and_eq_true] at h
    have eG := r.pure0 h.1
    subst eG
    exact .cons r (RepA.pure rs h.2)
theorem RepA.length {H : Hp} : ∀ {ts : List T} {vs : List V}, RepA K mg H ts vs → ts.length = vs.length
  | _, _, .nil => rfl
  | _, _, .cons _ r => congrArg (· + 1) r.length
def rTupD : List V → Hp → VK → Prop := fun xs H1 Q => xs.length ≤ sizeLine ∧ ∀ p, H1 p = none → Q (.ref p) (upd H1 p (.tup xs))
def rLstD : List V → Hp → VK → Prop := fun xs H1 Q => xs.length ≤ sizeLine ∧ ∀ p, H1 p = none → Q (.ref p) (upd H1 p (.lst xs))
def gTupD (ts : List T) : Option T := if (ts.all pureT && decide (ts.length ≤ 1000)) = true then some (.tup ts) else none
def gLstD (ts : List T) : Option T := if (ts.all pureT && decide (ts.length ≤ 1000)) = true then some (.lst ts) else none
theorem s_tupD : RLS K mg rTupD gTupD := fun H ts vs t Q r h k => by
  unfold gTupD at h
  by_cases c : (ts.all pureT && decide (ts.length ≤ 1000)) = true
  · rw [if_pos c] at h
    cases h
    rw [Bool.and_eq_true, decide_eq_true_eq] at c
    exact ⟨Nat.le_trans (by rw [← r.length]; exact c.2) (by decide), fun p hp => k _ _ [] ⟨(New.one hp).same, fun _ z => (nomatch z), List.nodup_nil⟩ (.tup (SqT.of upd_same) ((r.pure c.1).same (New.one hp).same))⟩
  · rw [if_neg c] at h; cases h
theorem s_lstD : RLS K mg rLstD gLstD := fun H ts vs t Q r h k => by
  unfold gLstD at h
  by_cases c : (ts.all pureT && decide (ts.length ≤ 1000)) = true
  · rw [if_pos c] at h
    cases h
    rw [Bool.and_eq_true, decide_eq_true_eq] at c
    exact ⟨Nat.le_trans (by rw [← r.length]; exact c.2) (by decide), fun p hp => k _ _ [p] (New.one hp) (.lst upd_same ((r.pure c.1).same (New.one hp).same))⟩
  · rw [if_neg c] at h; cases h
theorem fe_tup {x1} {f : M (List Hd)} (h : FA X W es f) : FE X W (.Tuple es x1 pos) (fCall gTupD f) := PE.imp (pe_tup h) fun _ _ _ q => RD.call (r := rTupD) s_tupD q
theorem fe_lst {f : M (List Hd)} (h : FA X W es f) : FE X W (.List es pos) (fCall gLstD f) := PE.imp (pe_lst h) fun _ _ _ q => RD.call (r := rLstD) s_lstD q
end

/-! ### comprehensions -/
def wipeT (vs : List Nat) : Nat → List T → List T
  | _, [] => []
  | k, t :: ts => (if vs.contains k = true then .unb else t) :: wipeT vs (k + 1) ts
def mixT (vs : List Nat) : Nat → List T → List T → List T
  | k, a :: as, b :: bs => (if vs.contains k = true then a else b) :: mixT vs (k + 1) as bs
  | _, _, _ => []
def okW (vs : List Nat) : Nat → List T → Bool
  | _, [] => true
  | k, t :: ts => (!vs.contains k || pureT t || isU t) && okW vs (k + 1) ts
section
variable {K : PySem.W.Frag} {mg : Str → Option Value} {H H' H1 : Hp}
theorem Rep.isU {t : T} {v : V} {G : List Addr} (r : Rep K mg H t v G) : FL.isU t = false := isU_of fun z => by subst z; exact r.nounb
theorem RelE.slots : ∀ {σ : St} {ρ : List T} {F : List Addr} {σ' : St}, RelE K mg H σ ρ F → σ'.length = σ.length → (∀ i, isU (ρ.getD i .unb) = false → σ'[i]? = σ[i]?) → RelE K mg H σ' ρ F
  | _, _, _, σ', .nil, l, _ => by
    cases σ' with
    | nil => exact .nil
    | cons _ _ => cases l
  | _, _, _, σ', .unb r, l, h => by
    cases σ' with
    | nil => cases l
    | cons y σ' => exact .unb (r.slots (by simpa using l) fun i hi => by simpa using h (i + 1) (by simpa using hi))
  | _, _, _, σ', .cons (v := v) (t := t) r q, l, h => by
    cases σ' with
    | nil => cases l
    | cons y σ' =>
      have hu : isU t = false := isU_of fun z => by subst z; exact r.nounb
      have e0 := h 0 (by simpa using hu)
      simp at e0
      subst e0
      exact .cons r (q.slots (by simpa using l) fun i hi => by simpa using h (i + 1) (by simpa using hi))
theorem RelE.wipe {vs : List Nat} : ∀ {k : Nat} {σ : St} {ρ : List T} {F : List Addr}, RelE K mg H σ ρ F → ∃ F', RelE K mg H σ (wipeT vs k ρ) F' ∧ F'.Sublist F
  | _, _, _, _, .nil => ⟨[], .nil, .slnil⟩
  | k, _, _, _, .unb (x := x) r => by
    obtain ⟨F', h1, h2⟩ := r.wipe (k := k + 1)
    refine ⟨F', ?_, h2⟩
    simp only [wipeT, ite_self]
    exact .unb h1
  | k, _, _, _, .cons (t := t) (G := G) r q => by
    obtain ⟨F', h1, h2⟩ := q.wipe (k := k + 1)
    by_cases c : vs.contains k = true
    · exact ⟨F', by simp only [wipeT, c, if_true]; exact .unb h1, h2.trans (List.sublist_append_right _ _)⟩
    · exact ⟨G ++ F', by simp only [wipeT, c, if_false]; exact .cons r h1, (List.Sublist.refl G).append h2⟩
theorem wipeT_get {vs : List Nat} : ∀ {k : Nat} {ρ : List T} {i : Nat}, isU ((wipeT vs k ρ).getD i .unb) = false → vs.contains (k + i) = false
  | k, [], i, h => by simp [wipeT, isU] at h
  | k, t :: ts, 0, h => by
    cases c : vs.contains k with
    | false => simpa using c
    | true => simp only [wipeT, c, if_true, List.getD_cons_zero, isU] at h; cases h
  | k, t :: ts, i + 1, h => by
    have := wipeT_get (vs := vs) (k := k + 1) (ρ := ts) (i := i) (by simpa [wipeT] using h)
    rw [show k + (i + 1) = k + 1 + i by omega]; exact this
theorem RelE.mix {vs : List Nat} (ex : ∀ b o, H1 b = some o → imm o = true → H b = some o) : ∀ {k : Nat} {σ σw : St} {ρ0 ρ : List T} {F1 F2 : List Addr}, RelE K mg H1 σ ρ0 F1 → okW vs k ρ0 = true → RelE K mg H σw ρ F2 → σw.length = σ.length →
    (∀ i, vs.contains (k + i) = false → σw[i]? = σ[i]?) → ∃ F3, RelE K mg H σ (mixT vs k ρ0 ρ) F3 ∧ F3.Sublist F2
  | _, [], _, _, _, _, _, .nil, _, r2, l, _ => by
    cases r2 with
    | nil => exact ⟨[], .nil, .slnil⟩
    | unb _ => cases l
    | cons _ _ => cases l
  | k, x :: σ, σw, t0 :: ρ0, ρ, F1, F2, r1, o, r2, l, h => by
    have tail : ∃ G, RelE K mg H1 σ ρ0 G := by
      cases r1 with
      | unb r => exact ⟨_, r⟩
      | cons _ r => exact ⟨_, r⟩
    obtain ⟨_, r1'⟩ := tail
    have o' : okW vs (k + 1) ρ0 = true := by
      simp only [okW, Bool.and_eq_true] at o
      exact o.2
    have o0 : vs.contains k = true → pureT t0 = true ∨ isU t0 = true := fun c => by
      simp only [okW, Bool.and_eq_true, c, Bool.not_true, Bool.false_or, Bool.or_eq_true] at o
      exact o.1
    cases r2 with
    | nil => cases l
    | @unb y σw' ρ' F2 q =>
      obtain ⟨F3, h1, h2⟩ := RelE.mix ex r1' o' q (by simpa using l) fun i hi => by simpa using h (i + 1) (by rw [show k + (i + 1) = k + 1 + i by omega]; exact hi)
      by_cases c : vs.contains k = true
      · have r0 : RelE K mg H (x :: σ) (t0 :: mixT vs (k + 1) ρ0 ρ') F3 := by
          cases r1 with
          | unb _ => exact .unb h1
          | @cons v _ _ _ _ G r _ =>
            rcases o0 c with z | z
            · have eG := r.pure0 z
              subst eG
              exact .cons (r.stay ex fun b o hb _ => by cases hb) h1
            · rw [r.isU] at z; cases z
        exact ⟨F3, by simp only [mixT, c, if_true]; exact r0, h2⟩
      · exact ⟨F3, by simp only [mixT, c, if_false]; exact .unb h1, h2⟩
    | @cons v t σw' ρ' F2 G r q =>
      obtain ⟨F3, h1, h2⟩ := RelE.mix ex r1' o' q (by simpa using l) fun i hi => by simpa using h (i + 1) (by rw [show k + (i + 1) = k + 1 + i by omega]; exact hi)
      by_cases c : vs.contains k = true
      · have r0 : RelE K mg H (x :: σ) (t0 :: mixT vs (k + 1) ρ0 ρ') F3 := by
          cases r1 with
          | unb _ => exact .unb h1
          | @cons v _ _ _ _ G r _ =>
            rcases o0 c with z | z
            · have eG := r.pure0 z
              subst eG
              exact .cons (r.stay ex fun b o hb _ => by cases hb) h1
            · rw [r.isU] at z; cases z
        exact ⟨F3, by simp only [mixT, c, if_true]; exact r0, h2.trans (List.sublist_append_right _ _)⟩
      · have e0 := h 0 (by simpa using c)
        simp at e0
        subst e0
        exact ⟨G ++ F3, by simp only [mixT, c, if_false]; exact .cons r h1, (List.Sublist.refl G).append h2⟩
end
theorem wipe_in {σ : St} : ∀ {vs : List Nat} {i : Nat}, i ∈ vs → i < σ.length → (wipe σ vs)[i]? = some none
  | v :: vs, i, hi, hl => by
    unfold wipe
    by_cases e : v = i
    · subst e
      rw [List.getElem?_set_self (by rw [wipe_length]; exact hl)]
    · rw [List.getElem?_set_ne e]
      exact wipe_in ((List.mem_cons.mp hi).resolve_left fun z => e z.symm) hl
def prC (vs : List Nat) : Nat → Bool := fun i => !vs.contains i
theorem wipe_kept {vs : List Nat} {σ σ2 : St} (k : Kept (prC vs) (wipe σ vs) σ2) : wipe σ2 vs = wipe σ vs := by
  have hl : σ2.length = σ.length := k.1.trans (wipe_length σ vs)
  refine List.ext_getElem? fun i => ?_
  by_cases c : i ∈ vs
  · by_cases h : i < σ.length
    · rw [wipe_in c h, wipe_in c (by rw [hl]; exact h)]
    · rw [List.getElem?_eq_none (by rw [wipe_length, hl]; omega), List.getElem?_eq_none (by rw [wipe_length]; omega)]
  · rw [wipe_out c]
    exact k.2 i (by simp [prC, c])
/-- the turns of a comprehension -/
def compL (vs : List Nat) (chk : List T → Bool) (g : T → M Unit) (c : M Bool) (el : M T) : Nat → List T → M (List T)
  | _, [] => fun ρ => if chk ρ = true then some (.ok [] ρ) else none
  | n, x :: xs => fun ρ => if chk ρ = true then (match g x ρ with
      | some (.ok _ ρ1) => (match c ρ1 with
        | some (.ok true ρ2) => (match el ρ2 with
          | some (.ok t ρ3) => if (pureT t && decide (n < sizeLine)) = true then (match compL vs chk g c el (n + 1) xs (wipeT vs 0 ρ3) with
              | some (.ok ts ρ4) => some (.ok (t :: ts) ρ4)
              | _ => none) else none
          | _ => none)
        | some (.ok false ρ2) => compL vs chk g c el n xs (wipeT vs 0 ρ2)
        | _ => none)
      | _ => none) else none
def compM (vs : List Nat) (g : T → M Unit) (c : M Bool) (el : M T) (p : List T × (List T → Bool)) : M T := fun ρ => if okW vs 0 ρ = true then (match compL vs p.2 g c el 0 p.1 (wipeT vs 0 ρ) with
    | some (.ok ts ρ') => some (.ok (.lst ts) (mixT vs 0 ρ ρ'))
    | _ => none) else none
def fComp (vs : List Nat) (src : M (List T × (List T → Bool))) (g : T → M Unit) (c : M Bool) (el : M T) : M T := src.bind (compM vs g c el)
abbrev ownS (own : List (Str × Nat)) : List Nat := own.map (·.2)
def W0 : WX := fun _ _ _ _ => False
def FTs (X : Cx) (W : WX) (ifs : List Expr) (f : M Bool) : Prop := PTs X ifs (RD X.K X.mg rB W f)
theorem fts_nil {X : Cx} {W : WX} : FTs X W [] (M.pure true) := ⟨fun pins s σ H Q I q => pts_nil.run pins s σ H Q I (RD.pureB q)⟩
theorem fts_one {X : Cx} {W : WX} {c : Expr} {f : M Bool} (h : FT X W c f) : FTs X W [c] f := pts_one h
section
variable {X : Cx} {W : WX} {pr : Nat → Bool} {elt tg iter : Expr} {ifs : List Expr} {scope : Scope} {own : List (Str × Nat)} {pos : Pos} {lv : List Nat} {src : M (List T × (List T → Bool))} {g : T → M Unit} {c : M Bool} {el : M T}
theorem comp_reading {vs : List Nat} (hlv : ∀ i, i ∈ lv → i ∉ vs) {σ : St} {H0 : Hp} {Q : VK} (q : RD X.K X.mg (rV X.K X.mg) W (fComp vs src g c el) σ H0 Q) :
    tLc (RD X.K X.mg (rIt X.K X.mg lv) W src) (GT X.K X.mg (prC vs) g) (RD X.K X.mg rB W0 c) (RD X.K X.mg (rV X.K X.mg) W0 el) vs σ H0 Q := by
  refine RD.fin (rel := rIt X.K X.mg lv) q fun a ρ1 J H1 F p k => ?_
  obtain ⟨xs, chk⟩ := a
  obtain ⟨F1, G1, R1, it, nd1, fr1, s1⟩ := p
  obtain ⟨nF1, nG1, dis⟩ := List.nodup_append.mp nd1
  intro D hD
  unfold compM at k
  simp only [] at k
  by_cases hok : okW vs 0 ρ1 = true
  · rw [if_pos hok] at k
    cases ec : compL vs chk g c el 0 xs (wipeT vs 0 ρ1) with
    | none => rw [ec] at k; exact k.elim
    | some r0 =>
      rw [ec] at k
      cases r0 with
      | exc x ρ2 => exact k.elim
      | ok tsA ρA =>
        simp only [] at k
        have hlen : ∀ {σ' : St} {H' : Hp} {ρ' : List T} {F' : List Addr}, RelE X.K X.mg H' σ' ρ' F' → σ'.length = ρ'.length := fun h => h.length
        -- the word of the turns
        refine ⟨fun i m H => ∃ ρ acc accV F2 ts, RelE X.K X.mg H (wipe σ vs) ρ F2 ∧ F2.Nodup ∧ (∀ x, x ∈ F2 → x ∈ F1 ∨ H1 x = none) ∧ D ∉ F2 ∧ Step F1 H1 H ∧ H D = some (.lst accV) ∧ Reps X.K X.mg H acc accV ∧
            m = xs.length - i ∧ i ≤ xs.length ∧ compL vs chk g c el acc.length (xs.drop i) ρ = some (.ok ts ρA) ∧ acc ++ ts = tsA, ⟨xs.length, ?_⟩, fun i m H hW => ?_⟩
        · obtain ⟨F2, R2, sub⟩ := R1.wipe (vs := vs) (k := 0)
          have nD : D ∉ F1 := fun z => by obtain ⟨o, q, _⟩ := R1.own D z; rw [hD] at q; cases q
          have sm : Same H1 (upd H1 D (.lst [])) := (New.one hD).same
          have R3 : RelE X.K X.mg (upd H1 D (.lst [])) (wipe σ vs) (wipeT vs 0 ρ1) F2 := (R2.same sm).slots (wipe_length σ vs) fun i hi => wipe_out (by
            have := wipeT_get hi
            rw [Nat.zero_add] at this
            intro z
            rw [List.contains_iff_mem.mpr z] at this; cases this)
          exact ⟨wipeT vs 0 ρ1, [], [], F2, tsA, R3, sub.nodup nF1, fun x hx => .inl (sub.subset hx), fun z => nD (sub.subset z), Step.same sm, upd_same, .nil, rfl, Nat.zero_le _, ec, rfl⟩
        · obtain ⟨ρ, acc, accV, F2, ts, R2, nd2, fr2, nD, st, hDv, racc, hm, hi, hc, hfin⟩ := hW
          have stable : chk ρ = true → (∀ (k : Nat) x, xs[k]? = some x → J.go k H ∧ ∀ v H'', J.yld k H v H'' → New H H'' [] ∧ Rep X.K X.mg H'' x v []) ∧ J.stop xs.length H := fun ck =>
            it H (wipe σ vs) ρ F2 R2 st.ext (fun x o hx e => st.keep x o e fun z => dis x z x hx rfl) (fun j hj => wipe_out (hlv j hj)) ck
          by_cases hlt : i < xs.length
          · have ed : xs.drop i = xs[i] :: xs.drop (i + 1) := List.drop_eq_getElem_cons hlt
            rw [ed] at hc
            unfold compL at hc
            by_cases hck : chk ρ = true
            · rw [if_pos hck] at hc
              obtain ⟨turns, _⟩ := stable hck
              obtain ⟨hgo, hy⟩ := turns i xs[i] (List.getElem?_eq_getElem hlt)
              refine .inr ⟨hgo, fun H' => ∃ ρ acc accV F2 ts, RelE X.K X.mg H' (wipe σ vs) ρ F2 ∧ F2.Nodup ∧ (∀ x, x ∈ F2 → x ∈ F1 ∨ H1 x = none) ∧ D ∉ F2 ∧ Step F1 H1 H' ∧ H' D = some (.lst accV) ∧ Reps X.K X.mg H' acc accV ∧
                compL vs chk g c el acc.length (xs.drop (i + 1)) ρ = some (.ok ts ρA) ∧ acc ++ ts = tsA, fun H' ⟨ρ, acc, accV, F2, ts, h1, h2, h3, h4, h5, h6, h7, h8, h9⟩ => ⟨xs.length - (i + 1), by omega, ρ, acc, accV, F2, ts, h1, h2, h3, h4, h5, h6, h7, rfl, hlt, h8, h9⟩, fun v H' y => ?_⟩
              obtain ⟨nw, rx⟩ := hy v H' y
              cases e1 : g xs[i] ρ with
              | none => rw [e1] at hc; cases hc
              | some r1 =>
                rw [e1] at hc
                cases r1 with
                | exc _ _ => cases hc
                | ok u ρ2 =>
                  (try simp only [] at hc)
                  refine ⟨xs[i], ρ, F2, [], R2.same nw.same, rx, by simpa using nd2, ?_⟩
                  rw [e1]
                  intro σ3 H3 p3
                  obtain ⟨F3, R3, nd3, fr3, s3, k3⟩ := p3
                  rw [List.append_nil] at fr3 s3
                  have ew : wipe σ3 vs = wipe σ vs := wipe_kept k3
                  have frS : ∀ x, x ∈ F3 → x ∈ F1 ∨ H1 x = none := fun x hx => by
                    rcases fr3 x hx with z | z
                    · exact fr2 x z
                    · have z2 : H x = none := nw.same.free z
                      by_cases hF : x ∈ F1
                      · exact .inl hF
                      · exact .inr (st.fresh hF z2)
                  have hDH' : H' D = some (.lst accV) := nw.same D _ hDv
                  have nD3 : D ∉ F3 := fun z => by
                    rcases fr3 D z with z | z
                    · exact nD z
                    · rw [hDH'] at z; cases z
                  have st3 : Step F1 H1 H3 := (st.trans (Step.same (F := F2) nw.same) fr2).trans s3 fr2
                  have hD3 : H3 D = some (.lst accV) := s3.keep D _ hDH' nD
                  have racc3 : Reps X.K X.mg H3 acc accV := (racc.same nw.same).stay s3.ext
                  refine ⟨ew, ρ2, F3, R3, nd3, ?_⟩
                  cases e2 : c ρ2 with
                  | none => rw [e2] at hc; cases hc
                  | some r2 =>
                    rw [e2] at hc
                    cases r2 with
                    | exc _ _ => cases hc
                    | ok b ρ3 =>
                      (try simp only [] at hc)
                      intro b' H4 p4
                      have eb : b = b' := by obtain ⟨_, _, _, _, eb, _⟩ := p4.st; exact eb
                      subst eb
                      obtain ⟨F4, G4, R4, ⟨_, eG4⟩, nd4, fr4, s4⟩ := p4
                      subst eG4
                      rw [List.append_nil] at nd4 fr4
                      have frS4 : ∀ x, x ∈ F4 → x ∈ F1 ∨ H1 x = none := fun x hx => by
                        rcases fr4 x hx with z | z
                        · exact frS x z
                        · by_cases hF : x ∈ F1
                          · exact .inl hF
                          · exact .inr (st3.fresh hF z)
                      have nD4 : D ∉ F4 := fun z => by
                        rcases fr4 D z with z | z
                        · exact nD3 z
                        · rw [hD3] at z; cases z
                      have st4 : Step F1 H1 H4 := st3.trans s4 frS
                      have hD4 : H4 D = some (.lst accV) := s4.keep D _ hD3 nD3
                      have racc4 : Reps X.K X.mg H4 acc accV := racc3.stay s4.ext
                      cases b with
                      | false =>
                        rw [if_neg (by decide)]
                        obtain ⟨F5, R5, sub5⟩ := R4.wipe (vs := vs) (k := 0)
                        have R6 : RelE X.K X.mg H4 (wipe σ vs) (wipeT vs 0 ρ3) F5 := R5.slots (by rw [← ew, wipe_length]) fun j hj => by
                          have := wipeT_get hj
                          rw [Nat.zero_add] at this
                          rw [← ew, wipe_out fun z => by rw [List.contains_iff_mem.mpr z] at this; cases this]
                        exact ⟨wipeT vs 0 ρ3, acc, accV, F5, ts, R6, sub5.nodup nd4, fun x hx => frS4 x (sub5.subset hx), fun z => nD4 (sub5.subset z), st4, hD4, racc4, hc, hfin⟩
                      | true =>
                        rw [if_pos rfl]
                        refine ⟨ρ3, F4, R4, nd4, ?_⟩
                        (try simp only [] at hc)
                        cases e3 : el ρ3 with
                        | none => rw [e3] at hc; cases hc
                        | some r3 =>
                          rw [e3] at hc
                          cases r3 with
                          | exc _ _ => cases hc
                          | ok t ρ4 =>
                            (try simp only [] at hc)
                            intro y H5 p5
                            obtain ⟨F5, G5, R5, rt, nd5, fr5, s5⟩ := p5
                            by_cases hpt : (pureT t && decide (acc.length < sizeLine)) = true
                            · rw [if_pos hpt] at hc
                              rw [Bool.and_eq_true, decide_eq_true_eq] at hpt
                              have eG := Rep.pure0 (show Rep X.K X.mg H5 t y G5 from rt) hpt.1
                              subst eG
                              rw [List.append_nil] at nd5 fr5
                              have hD5 : H5 D = some (.lst accV) := s5.keep D _ hD4 nD4
                              have racc5 : Reps X.K X.mg H5 acc accV := racc4.stay s5.ext
                              have nD5 : D ∉ F5 := fun z => by
                                rcases fr5 D z with z | z
                                · exact nD4 z
                                · rw [hD4] at z; cases z
                              have frS5 : ∀ x, x ∈ F5 → x ∈ F1 ∨ H1 x = none := fun x hx => by
                                rcases fr5 x hx with z | z
                                · exact frS4 x z
                                · by_cases hF : x ∈ F1
                                  · exact .inl hF
                                  · exact .inr (st4.fresh hF z)
                              have st5 : Step F1 H1 H5 := st4.trans s5 frS4
                              refine ⟨accV, hD5, by rw [← racc5.length]; exact hpt.2, ?_⟩
                              have ex6 : ∀ b o, H5 b = some o → imm o = true → (upd H5 D (.lst (accV ++ [y]))) b = some o := fun b o e i => by
                                have : b ≠ D := fun z => by rw [z, hD5] at e; cases e; cases i
                                rw [upd_ne this]; exact e
                              have s6 : Step [D] H5 (upd H5 D (.lst (accV ++ [y]))) := ⟨fun b o e n => by rw [upd_ne (by simpa using n)]; exact e, ex6⟩
                              have st6 : Step F1 H1 (upd H5 D (.lst (accV ++ [y]))) := st5.trans s6 fun x hx => by
                                simp at hx
                                subst hx
                                exact .inr hD
                              obtain ⟨F6, R6, sub6⟩ := R5.wipe (vs := vs) (k := 0)
                              have R7 : RelE X.K X.mg (upd H5 D (.lst (accV ++ [y]))) (wipe σ vs) (wipeT vs 0 ρ4) F6 := ((R6.step s6 fun x hx z => nD5 (by simp at z; subst z; exact sub6.subset hx)).slots (by rw [← ew, wipe_length]) fun j hj => by
                                have := wipeT_get hj
                                rw [Nat.zero_add] at this
                                rw [← ew, wipe_out fun z => by rw [List.contains_iff_mem.mpr z] at this; cases this])
                              cases e4 : compL vs chk g c el (acc.length + 1) (xs.drop (i + 1)) (wipeT vs 0 ρ4) with
                              | none => rw [e4] at hc; cases hc
                              | some r4 =>
                                rw [e4] at hc
                                cases r4 with
                                | exc _ _ => cases hc
                                | ok ts' ρ5 =>
                                  simp only [Option.some.injEq, Res.ok.injEq] at hc
                                  obtain ⟨e5, e6⟩ := hc
                                  subst e5 e6
                                  refine ⟨wipeT vs 0 ρ4, acc ++ [t], accV ++ [y], F6, ts', R7, sub6.nodup nd5, fun x hx => frS5 x (sub6.subset hx), fun z => nD5 (sub6.subset z), st6, upd_same, (racc5.append (.cons rt .nil)).stay ex6, ?_, ?_⟩
                                  · rw [List.length_append, List.length_singleton]; exact e4
                                  · rw [← hfin]; simp
                            · rw [if_neg hpt] at hc; cases hc
            · rw [if_neg hck] at hc; cases hc
          · have ei : i = xs.length := by omega
            subst ei
            rw [List.drop_length] at hc
            unfold compL at hc
            by_cases hck : chk ρ = true
            · rw [if_pos hck] at hc
              simp only [Option.some.injEq, Res.ok.injEq] at hc
              obtain ⟨e5, e6⟩ := hc
              subst e5 e6
              rw [List.append_nil] at hfin
              subst hfin
              obtain ⟨_, hstop⟩ := stable hck
              refine .inl ⟨hstop, k _ H ?_⟩
              obtain ⟨F3, R3, sub3⟩ := RelE.mix (vs := vs) st.ext R1 hok R2 (wipe_length σ vs) fun j hj => wipe_out (by
                rw [Nat.zero_add] at hj
                intro z
                rw [List.contains_iff_mem.mpr z] at hj; cases hj)
              refine ⟨F3, [D], R3, .lst hDv racc, List.nodup_append.mpr ⟨sub3.nodup nd2, by simp, fun x hx y hy e => ?_⟩, fun x hx => ?_, s1.trans st fun x hx => fr1 x (List.mem_append_left _ hx)⟩
              · simp at hy
                subst hy e
                exact nD (sub3.subset hx)
              · have back : x ∈ F1 ∨ H1 x = none → x ∈ F ∨ H0 x = none := fun z => by
                  rcases z with z | z
                  · exact fr1 x (List.mem_append_left _ z)
                  · by_cases hF : x ∈ F
                    · exact .inl hF
                    · exact .inr (s1.fresh hF z)
                rcases List.mem_append.mp hx with z | z
                · exact back (fr2 x (sub3.subset z))
                · simp at z
                  subst z
                  exact back (.inr hD)
            · rw [if_neg hck] at hc; cases hc
  · rw [if_neg hok] at k; exact k.elim
theorem fe_comp (hc : X.calm = true) (hN : X.N.Nodup) (hi : FI X W tg iter lv src) (ok : BlkOk X.N X.env.scope scope own)
    (hg : ∀ (s : Shared) (H : Hp) (C : Addr) (cl : List (Str × Addr)) (fp : List Addr), FG (X.blk s H scope (compEnvC scope cl C X.env) fp) (prC (ownS own)) tg g)
    (ht : ∀ (s : Shared) (H : Hp) (C : Addr) (cl : List (Str × Addr)) (fp : List Addr), FTs (X.blk s H scope (compEnvC scope cl C X.env) fp) W0 ifs c)
    (he : ∀ (s : Shared) (H : Hp) (C : Addr) (cl : List (Str × Addr)) (fp : List Addr), FE (X.blk s H scope (compEnvC scope cl C X.env) fp) W0 elt el)
    (hlv : ∀ i, i ∈ lv → i ∉ ownS own := by decide) (hs : ∀ x, foldedSetIterable iter X.env x = pure x := by intro _; rfl) : FE X W (.ListComp elt [⟨tg, iter, ifs, 0⟩] scope pos) (fComp (ownS own) src g c el) :=
  PE.imp (pe_lc (wi := RD X.K X.mg (rIt X.K X.mg lv) W src) (g := GT X.K X.mg (prC (ownS own)) g) (tt := RD X.K X.mg rB W0 c) (te := RD X.K X.mg (rV X.K X.mg) W0 el) hc hN hi ok hg ht he hs) fun σ H Q q => comp_reading hlv q
theorem fs_setComp {i : Nat} {y : Str} {py spos : Pos} (hc : X.calm = true) (hN : X.N.Nodup) (hy : X.N[i]? = some y) (hyl : X.env.scope.names.lookup y = some .local)
    (hsw : swapsWith (.ListComp elt [⟨tg, iter, ifs, 0⟩] scope pos) (some (.Name y py)) spos.line X.env = pure true) (hi : FI X W tg iter lv src) (ok : BlkOk X.N X.env.scope scope own)
    (hg : ∀ (s : Shared) (H : Hp) (C : Addr) (cl : List (Str × Addr)) (fp : List Addr), FG (X.blk s H scope (compEnvC scope cl C X.env) fp) (prC (ownS own)) tg g)
    (ht : ∀ (s : Shared) (H : Hp) (C : Addr) (cl : List (Str × Addr)) (fp : List Addr), FTs (X.blk s H scope (compEnvC scope cl C X.env) fp) W0 ifs c)
    (he : ∀ (s : Shared) (H : Hp) (C : Addr) (cl : List (Str × Addr)) (fp : List Addr), FE (X.blk s H scope (compEnvC scope cl C X.env) fp) W0 elt el)
    (hp : pr i = false := by rfl) (hlv : ∀ i, i ∈ lv → i ∉ ownS own := by decide) (hs : ∀ x, foldedSetIterable iter X.env x = pure x := by intro _; rfl) :
    FS X W pr (.Assign [.Name y py] (.ListComp elt [⟨tg, iter, ifs, 0⟩] scope pos) spos) (sSet i (fComp (ownS own) src g c el)) :=
  PS.imp (ps_setLc (wi := RD X.K X.mg (rIt X.K X.mg lv) W src) (g := GT X.K X.mg (prC (ownS own)) g) (tt := RD X.K X.mg rB W0 c) (te := RD X.K X.mg (rV X.K X.mg) W0 el) hc hN hy hyl hsw hi ok hg ht he hs) fun D σ H q => by
    have q1 : RD X.K X.mg (rV X.K X.mg) W (fComp (ownS own) src g c el) σ H fun y H1 => D.nx (σ.set i (some y)) H1 := RS.of q fun a ρ1 b H1 F p k => by
      unfold putS at k
      by_cases hl : i < ρ1.length
      · rw [if_pos hl] at k
        exact k _ H1 (p.put hl hp)
      · rw [if_neg hl] at k; exact k.elim
    exact comp_reading hlv q1
end
end FL
/-! FL6: subscripts, slices, methods, lists changed, calls of defs, a def's body -/
namespace FL
open PySem PySem.Spec L2
section
variable {X : Cx} {W : WX} {pr : Nat → Bool} {e a b : Expr} {es : List Expr} {pos p : Pos} {tg : Expr} {K : PySem.W.Frag} {mg : Str → Option Value}
/-! ### subscripts -/
theorem fe_ix {oa ob : M Hd} {r : R2} {g : T → T → Option T} (S : R2S X.K X.mg r g) (hr : IxR X r) (ha : FO X W a oa) (hb : FO X W b ob) (hs : PlainIx b) : FE X W (.Subscript a b pos) (fOp2 g oa ob) :=
  PE.imp (pe_ix hr ha hb hs) fun _ _ _ h => RD.op2 S h
/-- a part of a slice: left out, or an int -/
def pNo : M (Option Int) := M.pure none
def prtM (h : Hd) : M (Option Int) := fun ρ => match res ρ h with
  | .int i => some (.ok (some i) ρ)
  | _ => none
def pSo (o : M Hd) : M (Option Int) := o.bind prtM
def rO : Rl (Option Int) (Option Int) := fun _ _ a b G => a = b ∧ G = []
instance : StayR rO := ⟨fun r _ _ => r, fun {_ _ _ _ _} r x hx => (by rw [r.2] at hx; cases hx)⟩
def FP (X : Cx) (W : WX) (e : Option Expr) (f : M (Option Int)) : Prop := PO X e (RD X.K X.mg rO W f)
theorem PO.imp {X : Cx} {e : Option Expr} {t t' : TO} (h : PO X e t) (i : ∀ σ H Q, t' σ H Q → t σ H Q) : PO X e t' := ⟨fun pins s σ H Q I q => h.run pins s σ H Q I (i σ H Q q)⟩
theorem fp_none : FP X W none pNo := PO.imp po_none fun σ H Q q => by
  obtain ⟨ρ, F, R, nd, h⟩ := q
  exact h none H (Post.refl R nd ⟨rfl, rfl⟩)
theorem fp_some {o : M Hd} (h : FO X W e o) : FP X W (some e) (pSo o) := PO.imp (po_some h) fun σ H Q q => RD.fin (rel := rH X.K X.mg) q fun hd ρ1 v H1 F p k => by
  unfold prtM at k
  obtain ⟨F1, G, R1, nd1, r1⟩ := p.st
  cases e2 : res ρ1 hd with
  | int i =>
    rw [e2] at k
    obtain ⟨G', r2⟩ := res_rep R1 r1 (by rw [e2]; exact fun z => by cases z)
    rw [e2] at r2
    cases r2
    exact ⟨i, rfl, k _ H1 (p.new New.refl ⟨rfl, rfl⟩)⟩
  | _ => rw [e2] at k; exact k.elim
def slM (g : T → Option Int → Option Int → Option T) (p : Hd × Option Int × Option Int) : M T := fun ρ => if isU (res ρ p.1) = true then none else (g (res ρ p.1) p.2.1 p.2.2).map fun t => .ok t ρ
def fSl (g : T → Option Int → Option Int → Option T) (o : M Hd) (l u : M (Option Int)) : M T := (o.seq (l.seq u)).bind (slM g)
def RSlS (K : PySem.W.Frag) (mg : Str → Option Value) (r : V → Option Int → Option Int → Hp → VK → Prop) (g : T → Option Int → Option Int → Option T) : Prop :=
  ∀ (H : Hp) (a : T) (x : V) (Ga : List Addr) (l u : Option Int) (t : T) (Q : VK), Rep K mg H a x Ga → g a l u = some t → (∀ v H' G, New H H' G → Rep K mg H' t v G → Q v H') → r x l u H Q
theorem fe_slice {o : M Hd} {l u : M (Option Int)} {lo hi : Option Expr} {p2 : Pos} {r : V → Option Int → Option Int → Hp → VK → Prop} {g : T → Option Int → Option Int → Option T} (S : RSlS X.K X.mg r g) (hr : SlR X r) (he : FO X W e o) (hl : FP X W lo l) (hu : FP X W hi u) :
    FE X W (.Subscript e (.Slice lo hi none p2) pos) (fSl g o l u) := PE.imp (pe_slice hr he hl hu) fun σ H Q h => by
  refine RD.mono (RD.seq (rel := rH X.K X.mg) (rel' := rP rO rO) (Q := fun (p : V × Option Int × Option Int) H2 => r p.1 p.2.1 p.2.2 H2 Q) (RD.fin (rel := rP (rH X.K X.mg) (rP rO rO)) h fun q ρ1 xy H1 F ps k => ?_)) fun x H1 q => RD.seq (rel := rO) (rel' := rO) (Q := fun (p : Option Int × Option Int) H2 => r x p.1 p.2 H2 Q) q
  unfold slM at k
  cases hu : isU (res ρ1 q.1) with
  | true => rw [hu, if_pos rfl] at k; exact k.elim
  | false =>
    rw [hu, if_neg (by decide)] at k
    obtain ⟨F1, G, R1, nd1, G1, G2, _, r1, G3, G4, _, r3, r4⟩ := ps.st
    obtain ⟨Ga, ra⟩ := res_rep R1 r1 (isU_ne hu)
    cases hg : g (res ρ1 q.1) q.2.1 q.2.2 with
    | none => rw [hg] at k; exact k.elim
    | some t =>
      rw [hg] at k
      have e3 : q.2.1 = xy.2.1 := r3.1
      have e4 : q.2.2 = xy.2.2 := r4.1
      rw [e3, e4] at hg
      exact S H1 _ _ Ga _ _ t Q ra hg fun v H' G n rt => k v H' (ps.new n rt)

/-! ### methods of built-in things, by values -/
def mtM (g : T → List T → Option T) (p : Hd × List Hd) : M T := fun ρ => if isU (res ρ p.1) = true then none else match resL ρ p.2 with
  | none => none
  | some ts => (g (res ρ p.1) ts).map fun t => .ok t ρ
def fMt (g : T → List T → Option T) (o : M Hd) (as : M (List Hd)) : M T := (o.seq as).bind (mtM g)
def RMS (K : PySem.W.Frag) (mg : Str → Option Value) (r : V → List V → Hp → VK → Prop) (g : T → List T → Option T) : Prop :=
  ∀ (H : Hp) (a : T) (x : V) (Ga : List Addr) (ts : List T) (vs : List V) (t : T) (Q : VK), Rep K mg H a x Ga → RepA K mg H ts vs → g a ts = some t → (∀ v H' G, New H H' G → Rep K mg H' t v G → Q v H') → r x vs H Q
variable {name : Str} {apos cpos : Pos} {Ty id : String} {r : V → List V → Hp → VK → Prop} {g : T → List T → Option T} {o : M Hd} {as : M (List Hd)}
/-- the receiver a text: its kind is known ahead of the arguments -/
def strM (h : Hd) : M Hd := fun ρ => match res ρ h with
  | .str _ => some (.ok h ρ)
  | _ => none
def oStr (o : M Hd) : M Hd := o.bind strM
theorem RD.strO {σ : St} {H : Hp} {Q : V → Hp → Prop} (h : RD K mg (rH K mg) W (oStr o) σ H Q) : RD K mg (rH K mg) W o σ H fun x H1 => (∃ z, x = .str z) ∧ Q x H1 := by
  refine RD.fin (rel := rH K mg) h fun hd ρ1 v H1 F p k => ?_
  unfold strM at k
  obtain ⟨F1, G, R1, nd1, r1⟩ := p.st
  cases e2 : res ρ1 hd with
  | str z =>
    rw [e2] at k
    obtain ⟨G', r2⟩ := res_rep R1 r1 (by rw [e2]; exact fun z => by cases z)
    rw [e2] at r2
    cases r2
    exact ⟨⟨z, rfl⟩, k _ H1 p⟩
  | _ => rw [e2] at k; exact k.elim
theorem RD.mt {σ : St} {H : Hp} {Q : VK} (S : RMS K mg r g) (h : RD K mg (rV K mg) W (fMt g o as) σ H Q) : RD K mg (rH K mg) W o σ H fun x H1 => RD K mg (rL (rH K mg)) W as σ H1 fun xs H2 => r x xs H2 Q := by
  refine RD.seq (rel := rH K mg) (rel' := rL (rH K mg)) (Q := fun (p : V × List V) H2 => r p.1 p.2 H2 Q) (RD.fin (rel := rP (rH K mg) (rL (rH K mg))) h fun q ρ1 xy H1 F ps k => ?_)
  unfold mtM at k
  cases hu : isU (res ρ1 q.1) with
  | true => rw [hu, if_pos rfl] at k; exact k.elim
  | false =>
    rw [hu, if_neg (by decide)] at k
    obtain ⟨F1, G, R1, nd1, G1, G2, _, r1, r2⟩ := ps.st
    obtain ⟨Ga, ra⟩ := res_rep R1 r1 (isU_ne hu)
    cases e1 : resL ρ1 q.2 with
    | none => rw [e1] at k; exact k.elim
    | some ts =>
      rw [e1] at k
      simp only [] at k
      cases hg : g (res ρ1 q.1) ts with
      | none => rw [hg] at k; exact k.elim
      | some t =>
        rw [hg] at k
        exact S H1 _ _ Ga ts _ t Q ra (resL_rep R1 r2 e1) hg fun v H' G n rt => k v H' (ps.new n rt)
theorem fe_mstr (S : RMS X.K X.mg r g) (slot : Slot "str" name id) (hty : typeOf (.builtin id) = pure (.type "method_descriptor")) (hm : MtR X id r) (ho : FO X W a o) (ha : FA X W (e :: es) as)
    (hbase : attributeBase a name X.env (eval a X.env) = eval a X.env := by rfl)
    (hfew : ((backTo cpos (starEach (e :: es) X.env)).all (fun x => !x.1) && (backToKw cpos (keywordEach [] X.env)).all (fun x => x.1.isSome)
      && decide ((e :: es).length + ([] : List Keyword).length + (if ([] : List Keyword).isEmpty then 0 else 1) < 30)) = true := by rfl)
    (hline : (apos.endLine == cpos.line) = true := by rfl) (hs : starEach (e :: es) X.env = (false, eval e X.env) :: starEach es X.env := by rfl) (hplain : (backTo cpos (starEach es X.env)).any (·.1) = false := by rfl) :
    FE X W (.Call (.Attribute a name apos) (e :: es) [] cpos) (fMt g (oStr o) as) := PE.imp (pe_bm F.plainAttrs_str slot hty hm ho ha hbase hfew hline hs hplain) fun σ H Q q => by
  refine (RD.strO (RD.mt S q)).mono fun x H1 ⟨⟨z, ex⟩, q1⟩ => ⟨?_, q1⟩
  rw [ex]
  exact rfl
theorem fe_mstr0 (S : RMS X.K X.mg r g) (slot : Slot "str" name id) (hty : typeOf (.builtin id) = pure (.type "method_descriptor")) (hm : MtR X id r) (ho : FO X W a o)
    (hbase : attributeBase a name X.env (eval a X.env) = eval a X.env := by rfl) (hline : (apos.endLine == cpos.line) = true := by rfl) : FE X W (.Call (.Attribute a name apos) [] [] cpos) (fMt g (oStr o) aNil) := PE.imp (pe_bm0 F.plainAttrs_str slot hty hm ho hbase hline) fun σ H Q q => by
  refine (RD.strO (RD.mt S q)).mono fun x H1 ⟨⟨z, ex⟩, q1⟩ => ⟨?_, ?_⟩
  · rw [ex]; exact rfl
  · obtain ⟨ρ, F, R, nd, h⟩ := q1
    exact h [] H1 (Post.refl R nd rfl)

/-! ### lists of one's own, changed -/
/-- the slot holds a list of one's own -/
def isLst : T → Bool
  | .lst _ => true
  | _ => false
def lstM (i : Nat) : M Hd := fun ρ => if isLst (ρ.getD i .unb) = true then some (.ok (.pl i) ρ) else none
def mutM (i : Nat) (g : List T → List T → Option (T × List T)) (hs : List Hd) : M T := fun ρ => match ρ.getD i .unb, resL ρ hs with
  | .lst ts, some as => (g ts as).bind fun q => if (pureT q.1 && q.2.all pureT) = true then some (.ok q.1 (ρ.set i (.lst q.2))) else none
  | _, _ => none
def fMut (i : Nat) (g : List T → List T → Option (T × List T)) (as : M (List Hd)) : M T := (lstM i).bind fun _ => as.bind (mutM i g)
def RUS (K : PySem.W.Frag) (mg : Str → Option Value) (r : V → List V → Hp → VK → Prop) (g : List T → List T → Option (T × List T)) : Prop :=
  ∀ (H : Hp) (l : Addr) (xs : List V) (ts as ts' : List T) (vs : List V) (t : T) (Q : VK), H l = some (.lst xs) → Reps K mg H ts xs → RepA K mg H as vs → g ts as = some (t, ts') → pureT t = true → ts'.all pureT = true →
    (∀ v xs', Reps K mg H ts' xs' → Rep K mg H t v [] → Q v (upd H l (.lst xs'))) → r (.ref l) vs H Q
theorem upd_step {H : Hp} {l : Addr} {o o' : HO} (h : H l = some o) (hi : imm o = false) : Step [l] H (upd H l o') :=
  ⟨fun b u e n => by rw [upd_ne (by simpa using n)]; exact e, fun b u e i => by
    have : b ≠ l := fun z => by rw [z, h] at e; cases e; rw [hi] at i; cases i
    rw [upd_ne this]; exact e⟩
/-- a list in a slot gets other items -/
theorem Post.mut {α β : Type} {rel : Rl α β} {F : List Addr} {H H1 : Hp} {σ : St} {a0 : α} {b0 : β} {ρ1 : List T} {i : Nat} {ts ts' : List T} (p : Post K mg rel F H σ a0 ρ1 b0 H1) (hi : ρ1[i]? = some (.lst ts)) :
    ∃ l xs, σ[i]? = some (some (.ref l)) ∧ H1 l = some (.lst xs) ∧ Reps K mg H1 ts xs ∧ ∀ xs' t v, Reps K mg H1 ts' xs' → Rep K mg H1 t v [] → Post K mg (rV K mg) F H σ t (ρ1.set i (.lst ts')) v (upd H1 l (.lst xs')) := by
  obtain ⟨F1, G1, R1, r1, nd1, fr1, s1⟩ := p
  obtain ⟨nF1, _, _⟩ := List.nodup_append.mp nd1
  obtain ⟨v0, G, e1, r, sub, chg⟩ := R1.change (t' := .lst ts') nF1 hi (fun z => by cases z)
  cases r with
  | @lst l xs _ hl rs =>
    refine ⟨l, xs, e1, hl, rs, fun xs' t v rs' rt => ?_⟩
    have st : Step [l] H1 (upd H1 l (.lst xs')) := upd_step hl rfl
    obtain ⟨F2, R2, nd2, fr2, s2⟩ := chg (upd H1 l (.lst xs')) [l] st (.lst upd_same (rs'.stay st.ext)) (by simp) fun b hb => .inl hb
    refine ⟨F2, [], R2, rt.stay st.ext fun b o hb _ => (by cases hb), by simpa using nd2, fun x hx => ?_, s1.trans s2 fun x hx => fr1 x (List.mem_append_left _ hx)⟩
    rcases fr2 x (by simpa using hx) with z | z
    · exact fr1 x (List.mem_append_left _ z)
    · by_cases hF : x ∈ F
      · exact .inl hF
      · exact .inr (s1.fresh hF z)
theorem mut_reading {i : Nat} {g : List T → List T → Option (T × List T)} {σ : St} {H : Hp} {Q : VK} (S : RUS K mg r g) (h : RD K mg (rV K mg) W (fMut i g as) σ H Q) :
    ∃ v, σ[i]? = some (some v) ∧ tyV K "list" v H ∧ RD K mg (rL (rH K mg)) W as σ H fun xs H2 => r v xs H2 Q := by
  obtain ⟨ρ, F, R, nd, h⟩ := h
  unfold fMut M.bind lstM at h
  by_cases hl : isLst (ρ.getD i .unb) = true
  · simp only [hl, if_true] at h
    have hu : isU (ρ.getD i .unb) = false := by cases e0 : ρ.getD i .unb <;> rw [e0] at hl <;> first | rfl | cases hl
    obtain ⟨v, G, hs, r0, _⟩ := R.get (getD_some hu) (isU_ne hu)
    have hv : ∃ l xs, v = .ref l ∧ H l = some (.lst xs) := by
      generalize ρ.getD i .unb = t at *
      cases r0 with
      | lst hq _ => exact ⟨_, _, rfl, hq⟩
      | _ => cases hl
    obtain ⟨l, xs, rfl, hq⟩ := hv
    refine ⟨_, hs, .inl ⟨rfl, xs, SqL.of hq⟩, ?_⟩
    have h2 : RD K mg (rV K mg) W (as.bind (mutM i g)) σ H Q := ⟨ρ, F, R, nd, h⟩
    refine RD.fin (rel := rL (rH K mg)) h2 fun hd ρ1 vs H1 F' p k => ?_
    unfold mutM at k
    cases e1 : ρ1.getD i .unb <;> rw [e1] at k <;> try exact k.elim
    rename_i ts
    cases e2 : resL ρ1 hd with
    | none => rw [e2] at k; exact k.elim
    | some as' =>
      rw [e2] at k
      simp only [] at k
      cases e3 : g ts as' with
      | none => rw [e3] at k; exact k.elim
      | some q =>
        obtain ⟨t, ts'⟩ := q
        rw [e3] at k
        simp only [Option.bind_some] at k
        by_cases hp : (pureT t && ts'.all pureT) = true
        · rw [if_pos hp] at k
          rw [Bool.and_eq_true] at hp
          have hi1 : ρ1[i]? = some (.lst ts) := by
            have z := getD_some (ρ := ρ1) (i := i) (by rw [e1]; rfl)
            rw [e1] at z; exact z
          obtain ⟨F1, G1, R1, nd1, r1⟩ := p.st
          obtain ⟨l', xs1, hs1, hl1, rs1, fin⟩ := p.mut (ts' := ts') hi1
          have el : l' = l := by
            have e6 := hs1.symm.trans hs
            injection e6 with e6; injection e6 with e6; injection e6
          subst el
          exact S H1 l' xs1 ts as' ts' vs t Q hl1 rs1 (resL_rep R1 r1 e2) e3 hp.1 hp.2 fun v xs' rs' rt => k v _ (fin xs' t v rs' rt)
        · rw [if_neg hp] at k; exact k.elim
  · simp only [hl, if_false] at h
    exact h.elim
theorem fe_mut {i : Nat} {x : Str} {xp : Pos} {g : List T → List T → Option (T × List T)} (S : RUS X.K X.mg r g) (slot : Slot "list" name id) (hty : typeOf (.builtin id) = pure (.type "method_descriptor")) (hm : MtR X id r) (hN : X.N[i]? = some x) (hv : Vis X.env.scope x) (ha : FA X W (e :: es) as)
    (hd : (x == ("__debug__" : Str)) = false := by decide) (hcd : (x == ("__classdict__" : Str)) = false := by decide)
    (hbase : attributeBase (.Name x xp) name X.env (eval (.Name x xp) X.env) = eval (.Name x xp) X.env := by rfl)
    (hfew : ((backTo cpos (starEach (e :: es) X.env)).all (fun x => !x.1) && (backToKw cpos (keywordEach [] X.env)).all (fun x => x.1.isSome)
      && decide ((e :: es).length + ([] : List Keyword).length + (if ([] : List Keyword).isEmpty then 0 else 1) < 30)) = true := by rfl)
    (hline : (apos.endLine == cpos.line) = true := by rfl) (hs : starEach (e :: es) X.env = (false, eval e X.env) :: starEach es X.env := by rfl) (hplain : (backTo cpos (starEach es X.env)).any (·.1) = false := by rfl) :
    FE X W (.Call (.Attribute (.Name x xp) name apos) (e :: es) [] cpos) (fMut i g as) := PE.imp (pe_bm F.plainAttrs_list slot hty hm (pe_var hN hv hd hcd) ha hbase hfew hline hs hplain) fun σ H Q q => mut_reading S q
theorem fe_mut0 {i : Nat} {x : Str} {xp : Pos} {g : List T → List T → Option (T × List T)} (S : RUS X.K X.mg r g) (slot : Slot "list" name id) (hty : typeOf (.builtin id) = pure (.type "method_descriptor")) (hm : MtR X id r) (hN : X.N[i]? = some x) (hv : Vis X.env.scope x)
    (hd : (x == ("__debug__" : Str)) = false := by decide) (hcd : (x == ("__classdict__" : Str)) = false := by decide)
    (hbase : attributeBase (.Name x xp) name X.env (eval (.Name x xp) X.env) = eval (.Name x xp) X.env := by rfl) (hline : (apos.endLine == cpos.line) = true := by rfl) :
    FE X W (.Call (.Attribute (.Name x xp) name apos) [] [] cpos) (fMut i g aNil) := PE.imp (pe_bm0 F.plainAttrs_list slot hty hm (pe_var hN hv hd hcd) hbase hline) fun σ H Q q => by
  obtain ⟨v, h1, h2, h3⟩ := mut_reading S q
  obtain ⟨ρ, F, R, nd, h⟩ := h3
  exact ⟨v, h1, h2, h [] H (Post.refl R nd rfl)⟩

/-! ### xs[i] = e -/
def setIM (i : Nat) (t : T) (h : Hd) : M Fl := fun ρ => match ρ.getD i .unb, res ρ h with
  | .lst ts, .int k => (ixN ts.length k).bind fun j => if pureT t = true then some (.ok .nx (ρ.set i (.lst (ts.set j t)))) else none
  | _, _ => none
def sSetI (i : Nat) (ix : M Hd) (v : M T) : M Fl := v.bind fun t => if pureT t = true then (lstM i).bind fun _ => ix.bind (setIM i t) else fun _ => none
theorem lstM_eq {i : Nat} {ρ : List T} (hl : isLst (ρ.getD i .unb) = true) : ∃ ts, ρ.getD i .unb = .lst ts ∧ ρ[i]? = some (.lst ts) := by
  have hu : isU (ρ.getD i .unb) = false := by cases e0 : ρ.getD i .unb <;> rw [e0] at hl <;> first | rfl | cases hl
  have hs := getD_some hu
  cases e0 : ρ.getD i .unb <;> rw [e0] at hl hs <;> first | exact ⟨_, rfl, hs⟩ | cases hl
theorem fs_setI {i : Nat} {x : Str} {xp tpos : Pos} {ix : Expr} {oi : M Hd} {v : M T} (hv : FE X W e v) (hN : X.N[i]? = some x) (hvis : Vis X.env.scope x) (hix : FO X W ix oi)
    (hd : (x == ("__debug__" : Str)) = false := by decide) (hcd : (x == ("__classdict__" : Str)) = false := by decide)
    (ha : ∀ v, assign (.Subscript (.Name x xp) ix tpos) X.env v = (do
      let ov ← holding [v] (eval (.Name x xp) X.env)
      let iv ← holding [v, ov] (eval ix X.env)
      standAt tpos
      holding [v, ov, iv] (setItem ov iv v)
      release [v, ov, iv] []) := by intro _; rfl)
    (hs : swapsWithSole [.Subscript (.Name x xp) ix tpos] e pos.line X.env = pure false := by rfl) (hw : swappedStores [.Subscript (.Name x xp) ix tpos] e X.env = pure none := by rfl)
    (h1 : (assignEach [.Subscript (.Name x xp) ix tpos] X.env).map (·.2) = [assign (.Subscript (.Name x xp) ix tpos) X.env] := by rfl) :
    FS X W pr (.Assign [.Subscript (.Name x xp) ix tpos] e pos) (sSetI i oi v) :=
  PS.imp (ps_asg hv (pg_sub (pe_var hN hvis hd hcd) hix set_list ha) hs hw h1) fun D σ H q => by
    refine RS.of q fun t ρ1 x H1 F p k => ?_
    show ∃ ov, σ[i]? = some (some ov) ∧ RD X.K X.mg (rH X.K X.mg) W oi σ H1 fun iv H3 => rSetL ov iv x H3 fun H4 => D.nx σ H4
    by_cases hp : pureT t = true
    · rw [if_pos hp] at k
      unfold M.bind lstM at k
      by_cases hl : isLst (ρ1.getD i .unb) = true
      · simp only [hl, if_true] at k
        obtain ⟨ts0, _, hi0⟩ := lstM_eq hl
        obtain ⟨l, xs, hs0, _, _, _⟩ := p.mut (ts' := []) hi0
        refine ⟨_, hs0, ?_⟩
        obtain ⟨F1, R1, nd1, nx, nxX⟩ := p.next (rel' := rH X.K X.mg)
        refine ⟨ρ1, F1, R1, nd1, ?_⟩
        cases e1 : oi ρ1 with
        | none => rw [e1] at k; exact k
        | some r1 =>
          rw [e1] at k
          cases r1 with
          | exc z ρ2 => exact fun cls d H' px => k cls d σ H' (nxX _ _ _ _ _ px).toY
          | ok h ρ2 =>
            intro iv H3 p3
            have pp := nx _ _ _ _ p3
            simp only [] at k
            unfold setIM at k
            cases e2 : ρ2.getD i .unb with
            | lst ts =>
              rw [e2] at k
              have hi2 : ρ2[i]? = some (.lst ts) := by
                have z := getD_some (ρ := ρ2) (i := i) (by rw [e2]; rfl)
                rw [e2] at z; exact z
              obtain ⟨F3, G3, R3, nd3, G4, G5, _, rt, rh⟩ := pp.st
              cases e3 : res ρ2 h with
              | int kk =>
                rw [e3] at k
                simp only [] at k
                obtain ⟨G', r2⟩ := res_rep R3 rh (by rw [e3]; exact fun z => by cases z)
                rw [e3] at r2
                generalize iv = iv' at *
                cases r2
                cases e4 : ixN ts.length kk with
                | none => rw [e4] at k; exact k.elim
                | some j =>
                  rw [e4] at k
                  simp only [Option.bind_some, hp, if_true] at k
                  obtain ⟨l2, xs2, hs2, hl2, rs2, fin⟩ := pp.mut (ts' := ts.set j t) hi2
                  have el : l2 = l := by
                    have e6 := hs2.symm.trans hs0
                    injection e6 with e6; injection e6 with e6; injection e6
                  subst el
                  have rt' : Rep X.K X.mg H3 t x [] := by
                    have rt2 : Rep X.K X.mg H3 t x G4 := rt
                    have eG := rt2.pure0 hp
                    rw [eG] at rt2
                    exact rt2
                  exact ⟨l2, xs2, kk, j, rfl, rfl, hl2, by rw [← rs2.length]; exact e4, k σ _ (fin (xs2.set j x) .non .non (Reps.set rt' j rs2) .non).toS⟩
              | _ => rw [e3] at k; exact k.elim
            | _ => rw [e2] at k; exact k.elim
      · simp only [hl, if_false] at k
        exact k.elim
    · rw [if_neg hp] at k; exact k.elim

/-! ### xs[i] op= e -/
theorem pget_list : PGet X (rIxL X.K) := by
  intro pins s σ H x y v u Q I rx ry h
  obtain ⟨p, xs, i, z, rfl, rfl, hq, he, q⟩ := h
  cases rx
  obtain ⟨t, rfl⟩ := ry
  obtain ⟨its, r, pl, hz⟩ := I.list hq
  obtain ⟨j, h1, h2, h3, h4, h5⟩ := atI_get he
  obtain ⟨w, ew, rw'⟩ := r.get h2
  have hl := r.length
  have hn := line63
  have fin : EP X pins σ Q w s := ⟨z, H, I, rw', q⟩
  by_cases h0 : 0 ≤ i
  · have hj : i.toNat = j := by
      rw [seqIndex_of h0 h5] at h1
      exact Option.some.inj h1
    exact wpAny_getItem_list pl.isList h0 (by omega) (by rw [hj]; simpa using ew) fin
  · have hj : (i + (its.toArray.size : Int)).toNat = j := by
      rw [seqIndex_neg (by omega) h4] at h1
      rw [List.size_toArray, ← hl]
      exact Option.some.inj h1
    exact wpAny_getItem_list_neg pl.isList (by omega) (by rw [List.size_toArray] <;> omega) (by omega) (by rw [hj]; simpa using ew) fin
def augI2 (i : Nat) (k : Int) (g : T → T → Option T) (a : T) (h : Hd) : M Fl := fun ρ => match ρ.getD i .unb with
  | .lst ts => if isU (res ρ h) = true then none else (g a (res ρ h)).bind fun z => if pureT z = true then (ixN ts.length k).map fun j => .ok .nx (ρ.set i (.lst (ts.set j z))) else none
  | _ => none
def augI1 (i : Nat) (g : T → T → Option T) (o : M Hd) (h : Hd) : M Fl := fun ρ => match ρ.getD i .unb, res ρ h with
  | .lst ts, .int k => (atI ts k).bind fun a => (o.bind (augI2 i k g a)) ρ
  | _, _ => none
def sAugI (i : Nat) (g : T → T → Option T) (ix o : M Hd) : M Fl := (lstM i).bind fun _ => ix.bind (augI1 i g o)
theorem atI_rep {H : Hp} {ts : List T} {xs : List V} {k : Int} {a : T} (r : Reps K mg H ts xs) (h : atI ts k = some a) : ∃ v, atI xs k = some v ∧ Rep K mg H a v [] := by
  unfold atI at h ⊢
  rw [r.length] at h
  cases e : ixN xs.length k with
  | none => rw [e] at h; cases h
  | some j =>
    rw [e] at h
    obtain ⟨v, h1, h2⟩ := r.get (show ts[j]? = some a from h)
    exact ⟨v, h1, h2⟩
theorem fs_augI {i : Nat} {x : Str} {xp tpos : Pos} {ix : Expr} {oi o : M Hd} {op : Operator} {r : R2} {g : T → T → Option T} (S : R2S X.K X.mg r g) (hop : PIp X op r) (ho : FO X W e o) (hN : X.N[i]? = some x) (hvis : Vis X.env.scope x) (hix : FO X W ix oi)
    (hd : (x == ("__debug__" : Str)) = false := by decide) (hcd : (x == ("__classdict__" : Str)) = false := by decide)
    (ha : ∀ ov iv new, augStore ix ov iv new = (do holding [new, ov, iv] (setItem ov iv new); release [new, ov, iv] []; pure .next) := by intros; rfl) :
    FS X W pr (.AugAssign (.Subscript (.Name x xp) ix tpos) op e pos) (sAugI i g oi o) :=
  PS.imp (ps_augS (pe_var hN hvis hd hcd) hix pget_list ho hop set_list ha) fun D σ H q => by
    obtain ⟨ρ, F, R, nd, q⟩ := q
    unfold sAugI M.bind lstM at q
    by_cases hl : isLst (ρ.getD i .unb) = true
    · simp only [hl, if_true] at q
      obtain ⟨ts0, _, hi0⟩ := lstM_eq hl
      obtain ⟨v0, G0, hs0, r0, _⟩ := R.get hi0 (fun z => by cases z)
      cases r0 with
      | @lst l xs0 _ hl0 rs0 =>
      refine ⟨_, hs0, ?_⟩
      have q2 : RS X.K X.mg pr W (oi.bind (augI1 i g o)) D σ H := ⟨ρ, F, R, nd, q⟩
      refine RS.of q2 fun h ρ1 iv H1 F' p k => ?_
      unfold augI1 at k
      cases e2 : ρ1.getD i .unb with
      | lst ts =>
        rw [e2] at k
        have hi2 : ρ1[i]? = some (.lst ts) := by
          have z := getD_some (ρ := ρ1) (i := i) (by rw [e2]; rfl)
          rw [e2] at z; exact z
        obtain ⟨F3, G3, R3, nd3, rh⟩ := p.st
        cases e3 : res ρ1 h with
        | int kk =>
          rw [e3] at k
          simp only [] at k
          obtain ⟨G', r2⟩ := res_rep R3 rh (by rw [e3]; exact fun z => by cases z)
          rw [e3] at r2
          cases r2
          cases e4 : atI ts kk with
          | none => rw [e4] at k; exact k.elim
          | some a =>
            rw [e4] at k
            simp only [Option.bind_some] at k
            obtain ⟨l2, xs2, hs2, hl2, rs2, _⟩ := p.mut (ts' := []) hi2
            have el : l2 = l := by
              have e6 := hs2.symm.trans hs0
              injection e6 with e6; injection e6 with e6; injection e6
            subst el
            obtain ⟨xv, hx, ra⟩ := atI_rep rs2 e4
            refine ⟨l2, xs2, kk, xv, rfl, rfl, SqL.of hl2, hx, ?_⟩
            obtain ⟨F1, R1, nd1, nx, nxX⟩ := p.next (rel' := rH X.K X.mg)
            refine ⟨ρ1, F1, R1, nd1, ?_⟩
            unfold M.bind at k
            cases e5 : o ρ1 with
            | none => rw [e5] at k; exact k
            | some r1 =>
              rw [e5] at k
              cases r1 with
              | exc z ρ2 => exact fun cls d H' px => k cls d σ H' (nxX _ _ _ _ _ px).toY
              | ok h2 ρ2 =>
                intro yv H4 p4
                have pp := nx _ _ _ _ p4
                simp only [] at k
                unfold augI2 at k
                cases e6 : ρ2.getD i .unb with
                | lst ts2 =>
                  rw [e6] at k
                  simp only [] at k
                  have hi3 : ρ2[i]? = some (.lst ts2) := by
                    have z := getD_some (ρ := ρ2) (i := i) (by rw [e6]; rfl)
                    rw [e6] at z; exact z
                  cases hb : isU (res ρ2 h2) with
                  | true => rw [hb, if_pos rfl] at k; exact k.elim
                  | false =>
                    rw [hb, if_neg (by decide)] at k
                    cases hz : g a (res ρ2 h2) with
                    | none => rw [hz] at k; exact k.elim
                    | some z =>
                      rw [hz] at k
                      simp only [Option.bind_some] at k
                      by_cases hp : pureT z = true
                      · rw [if_pos hp] at k
                        cases e7 : ixN ts2.length kk with
                        | none => rw [e7] at k; exact k.elim
                        | some j =>
                          rw [e7] at k
                          obtain ⟨F5, G5, R5, nd5, G6, G7, _, _, rh2⟩ := pp.st
                          obtain ⟨Gb, rb⟩ := res_rep R5 rh2 (isU_ne hb)
                          have ra' : Rep X.K X.mg H4 a xv [] := by
                            obtain ⟨_, _, _, _, _, _, st⟩ := p4
                            exact ra.stay st.ext fun b o hb _ => by cases hb
                          refine S H4 a _ xv yv [] Gb z _ ra' rb hz fun zv H5 G nw rz => ?_
                          have pn := pp.new (rel' := rV X.K X.mg) nw rz
                          obtain ⟨l3, xs3, hs3, hl3, rs3, fin⟩ := pn.mut (ts' := ts2.set j z) hi3
                          have el : l3 = l2 := by
                            have e6 := hs3.symm.trans hs0
                            injection e6 with e6; injection e6 with e6; injection e6
                          subst el
                          have rz' : Rep X.K X.mg H5 z zv [] := by
                            have eG := rz.pure0 hp
                            rw [eG] at rz
                            exact rz
                          exact ⟨l3, xs3, kk, j, rfl, rfl, hl3, by rw [← rs3.length]; exact e7, k σ _ (fin (xs3.set j zv) .non .non (Reps.set rz' j rs3) .non).toS⟩
                      · rw [if_neg hp] at k; exact k.elim
                | _ => rw [e6] at k; exact k.elim
        | _ => rw [e3] at k; exact k.elim
      | _ => rw [e2] at k; exact k.elim
    · simp only [hl, if_false] at q
      exact q.elim
end

/-! ### calls of defs -/
def takeA : List Hd → List T → Option (List T × List T)
  | [], ρ => some ([], ρ)
  | .tm t :: hs, ρ => if isU t = true then none else (takeA hs ρ).map fun q => (t :: q.1, q.2)
  | .pl i :: hs, ρ => if isU (ρ.getD i .unb) = true then none else if pureT (ρ.getD i .unb) = true then (takeA hs ρ).map fun q => (ρ.getD i .unb :: q.1, q.2)
      else (takeA hs (ρ.set i .unb)).map fun q => (ρ.getD i .unb :: q.1, q.2)
/-- what a call leaves of its arguments goes back into the slots that it was taken from -/
def putBack : List Hd → List T → List T → List T → Option (List T)
  | .pl i :: hs, t :: ts, t' :: ts', ρ => if pureT t = true then putBack hs ts ts' ρ else match ρ[i]? with
    | some .unb => putBack hs ts ts' (ρ.set i t')
    | _ => none
  | .tm _ :: hs, _ :: ts, _ :: ts', ρ => putBack hs ts ts' ρ
  | [], _, _, ρ => some ρ
  | _, _, _, _ => none
def defM (m : M T) (hs : List Hd) : M T := fun ρ => match takeA hs ρ with
  | none => none
  | some (ts, ρ1) => match m ts with
    | some (.ok t ts') => (putBack hs ts ts' ρ1).map fun ρ2 => .ok t ρ2
    | some (.exc e ts') => (putBack hs ts ts' ρ1).map fun ρ2 => .exc e ρ2
    | none => none
def fDef (m : M T) (as : M (List Hd)) : M T := as.bind (defM m)
def spF (K : PySem.W.Frag) (mg : Str → Option Value) (n : Nat) (m : M T) : Sp := fun vs H Q E => vs.length = n ∧ RD K mg (rV K mg) (fun c d _ H' => E c d H') m (vs.map some) H Q
section
variable {K : PySem.W.Frag} {mg : Str → Option Value} {H H' : Hp} {σ : St}
theorem takeA_rel : ∀ {hs : List Hd} {vs : List V} {ρ ρ' ts : List T} {F G : List Addr}, RelE K mg H σ ρ F → rL (rH K mg) H σ hs vs G → takeA hs ρ = some (ts, ρ') →
    ∃ Fa F', RelE K mg H (vs.map some) ts Fa ∧ RelE K mg H σ ρ' F' ∧ (F ++ G).Perm (Fa ++ F')
  | [], [], ρ, _, _, F, G, R, r, e => by
    cases e
    have eG : G = [] := r
    subst eG
    exact ⟨[], F, .nil, R, by simp⟩
  | .tm t :: hs, v :: vs, ρ, ρ', ts, F, G, R, ⟨G1, G2, eG, r1, r2⟩, e => by
    unfold takeA at e
    cases hu : isU t with
    | true => rw [hu, if_pos rfl] at e; cases e
    | false =>
      rw [hu, if_neg (by decide), Option.map_eq_some_iff] at e
      obtain ⟨⟨ts1, ρ1⟩, e1, e2⟩ := e
      cases e2
      obtain ⟨Fa, F', h1, h2, pm⟩ := takeA_rel R r2 e1
      refine ⟨G1 ++ Fa, F', .cons r1 h1, h2, ?_⟩
      subst eG
      have p1 : (F ++ (G1 ++ G2)).Perm (G1 ++ (F ++ G2)) := by
        rw [← List.append_assoc, ← List.append_assoc]
        exact List.Perm.append_right G2 List.perm_append_comm
      refine p1.trans ?_
      rw [List.append_assoc]
      exact List.Perm.append_left G1 pm
  | .pl i :: hs, v :: vs, ρ, ρ', ts, F, G, R, ⟨G1, G2, eG, r1, r2⟩, e => by
    obtain ⟨hs', eG1⟩ := r1
    subst eG1
    subst eG
    unfold takeA at e
    cases hu : isU (ρ.getD i .unb) with
    | true => rw [hu, if_pos rfl] at e; cases e
    | false =>
      rw [hu, if_neg (by decide)] at e
      obtain ⟨v0, Gi, F1, e2, r, R2, pm⟩ := R.out (getD_some hu) (isU_ne hu)
      have ev : v0 = v := by
        have e3 := e2.symm.trans hs'
        injection e3 with e3; injection e3
      subst ev
      by_cases hp : pureT (ρ.getD i .unb) = true
      · rw [if_pos hp, Option.map_eq_some_iff] at e
        obtain ⟨⟨ts1, ρ1⟩, e1, e4⟩ := e
        cases e4
        have eG := r.pure0 hp
        subst eG
        obtain ⟨Fa, F', h1, h2, pm2⟩ := takeA_rel R r2 e1
        exact ⟨[] ++ Fa, F', .cons r h1, h2, by simpa using pm2⟩
      · rw [if_neg hp, Option.map_eq_some_iff] at e
        obtain ⟨⟨ts1, ρ1⟩, e1, e4⟩ := e
        cases e4
        obtain ⟨Fa, F', h1, h2, pm2⟩ := takeA_rel R2 r2 e1
        refine ⟨Gi ++ Fa, F', .cons r h1, h2, ?_⟩
        refine (List.Perm.append_right _ pm).trans ?_
        rw [List.append_assoc, List.append_assoc]
        exact List.Perm.append_left Gi pm2
  | [], _ :: _, _, _, _, _, _, _, r, _ => r.elim
  | .tm _ :: _, [], _, _, _, _, _, _, r, _ => r.elim
  | .pl _ :: _, [], _, _, _, _, _, _, r, _ => r.elim
theorem putBack_rel : ∀ {hs : List Hd} {vs : List V} {ρ ρ' ts ts' : List T} {Fa F : List Addr}, RelE K mg H σ ρ F → RelE K mg H (vs.map some) ts' Fa → (∀ (j i : Nat), hs[j]? = some (.pl i) → ∃ v, vs[j]? = some v ∧ σ[i]? = some (some v)) → putBack hs ts ts' ρ = some ρ' → (Fa ++ F).Nodup →
    ∃ F', RelE K mg H σ ρ' F' ∧ F'.Nodup ∧ ∀ x, x ∈ F' → x ∈ Fa ∨ x ∈ F
  | [], _, ρ, _, _, _, Fa, F, R, _, _, e, nd => by
    unfold putBack at e
    cases e
    exact ⟨F, R, (List.nodup_append.mp nd).2.1, fun x h => .inr h⟩
  | .tm t :: hs, vs, ρ, ρ', ts, ts', Fa, F, R, A, hh, e, nd => by
    cases ts with
    | nil => unfold putBack at e; cases e
    | cons t0 ts =>
      cases ts' with
      | nil => unfold putBack at e; cases e
      | cons t1 ts' =>
        unfold putBack at e
        cases vs with
        | nil => nomatch A
        | cons v vs =>
          have tail : ∃ Fb, RelE K mg H (vs.map some) ts' Fb ∧ Fb.Sublist Fa := by
            cases A with
            | unb q => exact ⟨_, q, List.Sublist.refl _⟩
            | cons _ q => exact ⟨_, q, List.sublist_append_right _ _⟩
          obtain ⟨Fb, q, sub⟩ := tail
          obtain ⟨F', h1, h2, h3⟩ := putBack_rel R q (fun j i h => by simpa using hh (j + 1) i (by simpa using h)) e ((sub.append (List.Sublist.refl F)).nodup nd)
          exact ⟨F', h1, h2, fun x hx => (h3 x hx).imp (fun z => sub.subset z) id⟩
  | .pl i :: hs, vs, ρ, ρ', ts, ts', Fa, F, R, A, hh, e, nd => by
    cases ts with
    | nil => unfold putBack at e; cases e
    | cons t0 ts =>
      cases ts' with
      | nil => unfold putBack at e; cases e
      | cons t1 ts' =>
        cases vs with
        | nil => nomatch A
        | cons v vs =>
          obtain ⟨v', hv1, hv2⟩ := hh 0 i rfl
          have ev : v = v' := by simpa using hv1
          subst ev
          unfold putBack at e
          by_cases hp : pureT t0 = true
          · rw [if_pos hp] at e
            have tail : ∃ Fb, RelE K mg H (vs.map some) ts' Fb ∧ Fb.Sublist Fa := by
              cases A with
              | unb q => exact ⟨_, q, List.Sublist.refl _⟩
              | cons _ q => exact ⟨_, q, List.sublist_append_right _ _⟩
            obtain ⟨Fb, q, sub⟩ := tail
            obtain ⟨F', h1, h2, h3⟩ := putBack_rel R q (fun j i h => by simpa using hh (j + 1) i (by simpa using h)) e ((sub.append (List.Sublist.refl F)).nodup nd)
            exact ⟨F', h1, h2, fun x hx => (h3 x hx).imp (fun z => sub.subset z) id⟩
          · rw [if_neg hp] at e
            have hrho : ρ[i]? = some .unb := by
              cases e0 : ρ[i]? with
              | none => rw [e0] at e; cases e
              | some t => rw [e0] at e; cases t <;> first | rfl | cases e
            rw [hrho] at e
            cases A with
            | unb q =>
              have e1 : ρ.set i .unb = ρ := by
                refine List.ext_getElem? fun j => ?_
                by_cases hj : i = j
                · subst hj
                  rw [List.getElem?_set_self (List.getElem?_eq_some_iff.mp hrho).1, hrho]
                · rw [List.getElem?_set_ne hj]
              rw [e1] at e
              exact putBack_rel R q (fun j i h => by simpa using hh (j + 1) i (by simpa using h)) e nd
            | @cons _ _ _ _ Fb Gb r q =>
              obtain ⟨F2, R2, pm⟩ := R.into hrho hv2 r
              have nd2 : (Fb ++ F2).Nodup := by
                have p1 : (Fb ++ F2).Perm ((Gb ++ Fb) ++ F) := by
                  refine (List.Perm.append_left Fb pm).trans ?_
                  rw [← List.append_assoc]
                  exact List.Perm.append_right F List.perm_append_comm
                exact p1.nodup_iff.mpr nd
              obtain ⟨F', h1, h2, h3⟩ := putBack_rel R2 q (fun j i h => by simpa using hh (j + 1) i (by simpa using h)) e nd2
              refine ⟨F', h1, h2, fun x hx => ?_⟩
              rcases h3 x hx with z | z
              · exact .inl (List.mem_append_right _ z)
              · rcases List.mem_append.mp (pm.mem_iff.mp z) with z | z
                · exact .inl (List.mem_append_left _ z)
                · exact .inr z
theorem rL_pl : ∀ {hs : List Hd} {vs : List V} {G : List Addr}, rL (rH K mg) H σ hs vs G → ∀ (j i : Nat), hs[j]? = some (.pl i) → ∃ v, vs[j]? = some v ∧ σ[i]? = some (some v)
  | [], _, _, _, j, i, h => by simp at h
  | h0 :: hs, [], _, r, _, _, _ => r.elim
  | h0 :: hs, v :: vs, _, ⟨G1, G2, _, r1, r2⟩, 0, i, h => by
    simp at h
    subst h
    exact ⟨v, rfl, r1.1⟩
  | h0 :: hs, v :: vs, _, ⟨G1, G2, _, r1, r2⟩, j + 1, i, h => by
    obtain ⟨v', h1, h2⟩ := rL_pl r2 j i (by simpa using h)
    exact ⟨v', by simpa using h1, h2⟩
def Arity (n : Nat) (m : M T) : Prop := ∀ ts r, m ts = some r → ts.length = n
theorem takeA_len : ∀ {hs : List Hd} {ρ : List T} {q : List T × List T}, takeA hs ρ = some q → q.1.length = hs.length
  | [], ρ, q, h => by unfold takeA at h; cases h; rfl
  | .tm t :: hs, ρ, q, h => by
    unfold takeA at h
    cases hu : isU t with
    | true => rw [hu, if_pos rfl] at h; cases h
    | false =>
      rw [hu, if_neg (by decide), Option.map_eq_some_iff] at h
      obtain ⟨q1, e1, e2⟩ := h
      subst e2
      simp [takeA_len e1]
  | .pl i :: hs, ρ, q, h => by
    unfold takeA at h
    cases hu : isU (ρ.getD i .unb) with
    | true => rw [hu, if_pos rfl] at h; cases h
    | false =>
      rw [hu, if_neg (by decide)] at h
      by_cases hp : pureT (ρ.getD i .unb) = true
      · rw [if_pos hp, Option.map_eq_some_iff] at h
        obtain ⟨q1, e1, e2⟩ := h
        subst e2
        simp [takeA_len e1]
      · rw [if_neg hp, Option.map_eq_some_iff] at h
        obtain ⟨q1, e1, e2⟩ := h
        subst e2
        simp [takeA_len e1]
theorem rL_len {α β : Type} {r : Rl α β} {H : Hp} {σ : St} : ∀ {as : List α} {bs : List β} {G : List Addr}, rL r H σ as bs G → as.length = bs.length
  | [], [], _, _ => rfl
  | _ :: _, _ :: _, _, ⟨_, _, _, _, r2⟩ => congrArg (· + 1) (rL_len r2)
  | [], _ :: _, _, h => h.elim
  | _ :: _, [], _, h => h.elim
theorem def_reading {W : WX} {n : Nat} {m : M T} {as : M (List Hd)} {Q : VK} (h : RD K mg (rV K mg) W (fDef m as) σ H Q) (ar : Arity n m) :
    RD K mg (rL (rH K mg)) W as σ H fun vs H1 => spF K mg n m vs H1 Q (fun c d H' => W c d σ H') := by
  refine RD.fin (rel := rL (rH K mg)) h fun hs ρ1 vs H1 F p k => ?_
  unfold defM at k
  obtain ⟨F1, G1, R1, r1, nd1, fr1, s1⟩ := p
  have hlen : vs.length = n := by
    cases e1 : takeA hs ρ1 with
    | none => rw [e1] at k; exact k.elim
    | some q =>
      rw [e1] at k
      obtain ⟨ts, ρ2⟩ := q
      simp only [] at k
      cases e2 : m ts with
      | none => rw [e2] at k; exact k.elim
      | some r2 =>
        have z := takeA_len e1
        rw [← rL_len r1, ← z]
        exact ar ts r2 e2
  refine ⟨hlen, ?_⟩
  cases e1 : takeA hs ρ1 with
  | none => rw [e1] at k; exact k.elim
  | some q =>
    obtain ⟨ts, ρ2⟩ := q
    rw [e1] at k
    simp only [] at k
    obtain ⟨Fa, F2, A, R2, pm⟩ := takeA_rel R1 r1 e1
    have nd2 := pm.nodup_iff.mp nd1
    obtain ⟨nFa, nF2, dis⟩ := List.nodup_append.mp nd2
    have frA : ∀ x, x ∈ Fa → x ∈ F ∨ H x = none := fun x hx => fr1 x (pm.mem_iff.mpr (List.mem_append_left _ hx))
    have fr2 : ∀ x, x ∈ F2 → x ∈ F ∨ H x = none := fun x hx => fr1 x (pm.mem_iff.mpr (List.mem_append_right _ hx))
    have back : ∀ {l : List Addr}, (∀ x, x ∈ l → x ∈ Fa ∨ H1 x = none) → ∀ x, x ∈ l → x ∈ F ∨ H x = none := fun fr x hx => by
      rcases fr x hx with z | z
      · exact frA x z
      · by_cases hF : x ∈ F
        · exact .inl hF
        · exact .inr (s1.fresh hF z)
    have pls := rL_pl r1
    refine ⟨ts, Fa, A, nFa, ?_⟩
    cases e2 : m ts with
    | none => rw [e2] at k; exact k
    | some r2 =>
      rw [e2] at k
      cases r2 with
      | exc x ts' =>
        intro cls d H2 px
        obtain ⟨Fb, B, ndB, frB, sB, xB⟩ := px
        simp only [] at k
        cases e3 : putBack hs ts ts' ρ2 with
        | none => rw [e3] at k; exact k.elim
        | some ρ3 =>
          rw [e3] at k
          have R3 : RelE K mg H2 σ ρ2 F2 := R2.step sB fun b hb z => dis b z b hb rfl
          have ndF : (Fb ++ F2).Nodup := List.nodup_append.mpr ⟨ndB, nF2, fun x hx y hy e => by
            subst e
            rcases frB x hx with z | z
            · exact dis x z x hy rfl
            · obtain ⟨o, q, _⟩ := R2.own x hy
              rw [z] at q; cases q⟩
          obtain ⟨F3, R4, nd4, sub4⟩ := putBack_rel R3 B pls e3 ndF
          exact k cls d H2 ⟨F3, R4, nd4, fun x hx => (sub4 x hx).elim (back frB x) (fr2 x), s1.trans sB fun x hx => fr1 x (pm.mem_iff.mpr (List.mem_append_left _ hx)), xB⟩
      | ok t ts' =>
        intro v H2 px
        obtain ⟨Fb, G, B, rt, ndB, frB, sB⟩ := px
        simp only [] at k
        cases e3 : putBack hs ts ts' ρ2 with
        | none => rw [e3] at k; exact k.elim
        | some ρ3 =>
          rw [e3] at k
          obtain ⟨nFb, nG, disB⟩ := List.nodup_append.mp ndB
          have R3 : RelE K mg H2 σ ρ2 F2 := R2.step sB fun b hb z => dis b z b hb rfl
          have nof : ∀ x, x ∈ Fb ++ G → x ∉ F2 := fun x hx hy => by
            rcases frB x hx with z | z
            · exact dis x z x hy rfl
            · obtain ⟨o, q, _⟩ := R2.own x hy
              rw [z] at q; cases q
          have ndF : (Fb ++ F2).Nodup := List.nodup_append.mpr ⟨nFb, nF2, fun x hx y hy e => by subst e; exact nof x (List.mem_append_left _ hx) hy⟩
          obtain ⟨F3, R4, nd4, sub4⟩ := putBack_rel R3 B pls e3 ndF
          refine k v H2 ⟨F3, G, R4, rt, List.nodup_append.mpr ⟨nd4, nG, fun x hx y hy e => ?_⟩, fun x hx => ?_, s1.trans sB fun x hx => fr1 x (pm.mem_iff.mpr (List.mem_append_left _ hx))⟩
          · subst e
            rcases sub4 x hx with z | z
            · exact disB x z x hy rfl
            · exact nof x (List.mem_append_right _ hy) z
          · rcases List.mem_append.mp hx with z | z
            · exact (sub4 x z).elim (fun q => back frB x (List.mem_append_left _ q)) (fr2 x)
            · exact back frB x (List.mem_append_right _ z)
end
end FL
/-! FL7: a def that does as a program over trees says; its call, its body; the law's end -/
namespace FL
open PySem PySem.Spec L2
open PyProof.Rows (envOfC)

/-- the def of that name, of n parameters, does as m says -/
structure Def (P : Program) (w : World) (K : PySem.W.Frag) (mg : Str → Option Value) (base : Heap) (x : Str) (k n : Nat) (m : M T) : Prop where
  ar : Arity n m
  ex : ∃ f fd ps, mg x = some (.ref f) ∧ PySem.W.keepIn K (.ref f) = true ∧ Binds K fd ps [] ∧ ps.length = n ∧ FnOk P w K mg base (L2.CX P w) k f fd ps (spF K mg n m)
theorem Def.mono {P : Program} {w : World} {K : PySem.W.Frag} {mg : Str → Option Value} {base : Heap} {x : Str} {j k n : Nat} {m : M T} (D : Def P w K mg base x j n m) (h : j ≤ k) : Def P w K mg base x k n m :=
  ⟨D.ar, let ⟨f, fd, ps, h1, h2, h3, h4, F⟩ := D.ex; ⟨f, fd, ps, h1, h2, h3, h4, F.mono h⟩⟩
theorem takes0 {X : Cx} : Takes X W0 := fun u s' ⟨_, _, _, _, _, _, _, _, _, _, _, _, _, _, _, _, h⟩ => h.elim
section
variable {X : Cx} {W : WX} {e : Expr} {es : List Expr} {x : Str} {p pos : Pos} {k n : Nat} {m : M T} {as : M (List Hd)}
theorem fe_def (D : Def X.prog X.w X.K X.mg X.base x k n m) (hr : Room k X.A) (tk : Takes X W) (hg : Gl X x) (ha : FA X W (e :: es) as)
    (hdb : (x == ("__debug__" : Str)) = false := by decide) (he : starEach (e :: es) X.env = (false, eval e X.env) :: starEach es X.env := by rfl) (hpl : (backTo pos (starEach es X.env)).any (·.1) = false := by rfl) :
    FE X W (.Call (.Name x p) (e :: es) [] pos) (fDef m as) := by
  obtain ⟨f, fd, ps, h1, h2, h3, h4, F⟩ := D.ex
  exact PE.imp (pe_callS (E := WE W) F hr hg h1 h2 h3 (fun σ => passAt tk σ) ha hdb he hpl) fun σ H Q q => def_reading q D.ar
theorem fe_def0 (D : Def X.prog X.w X.K X.mg X.base x k n m) (hr : Room k X.A) (tk : Takes X W) (hg : Gl X x) (hdb : (x == ("__debug__" : Str)) = false := by decide) : FE X W (.Call (.Name x p) [] [] pos) (fDef m aNil) := by
  obtain ⟨f, fd, ps, h1, h2, h3, h4, F⟩ := D.ex
  refine ⟨fun pins s σ H Q I h => ?_⟩
  refine wpAny_Call_Name_kw (ld_glob I hg h1 ?_ hdb)
  have q := def_reading h D.ar
  obtain ⟨ρ, F1, R, nd, q⟩ := q
  exact PySem.W.callWith_K0 I.kIn h2 (run_fnS (us := []) (E := WE W) F hr h3 (passAt tk σ) I .nil (q [] H (Post.refl R nd rfl)))
end

/-! ### a def's body -/
def copyOut (pr : Nat → Bool) : Nat → List T → List T → List T
  | _, [], _ => []
  | k, t :: ts, [] => (if pureT t = true then t else .unb) :: copyOut pr (k + 1) ts []
  | k, t :: ts, r :: ρ => (if pureT t = true then t else if pr k = true then r else .unb) :: copyOut pr (k + 1) ts ρ
def fBody (n l : Nat) (pr : Nat → Bool) (fb : M Fl) : M T := fun ts => if ts.length = n then (match fb (ts ++ List.replicate (l - n) .unb) with
    | some (.ok (.rt t) ρ') => some (.ok t (copyOut pr 0 ts ρ'))
    | some (.ok .nx ρ') => some (.ok .non (copyOut pr 0 ts ρ'))
    | some (.exc e ρ') => some (.exc e (copyOut pr 0 ts ρ'))
    | _ => none) else none
theorem fBody_ar {n l : Nat} {pr : Nat → Bool} {fb : M Fl} : Arity n (fBody n l pr fb) := fun ts r h => by
  unfold fBody at h
  by_cases e : ts.length = n
  · exact e
  · rw [if_neg e] at h; cases h
section
variable {K : PySem.W.Frag} {mg : Str → Option Value} {H H' : Hp}
theorem copyOut_rel {pr : Nat → Bool} (ex : ∀ b o, H b = some o → imm o = true → H' b = some o) : ∀ {k : Nat} {vs : List V} {ts : List T} {F : List Addr} {σ' : St} {ρ' : List T} {F' : List Addr}, RelE K mg H (vs.map some) ts F → RelE K mg H' σ' ρ' F' →
    (∀ (i : Nat) v, vs[i]? = some v → pr (k + i) = true → σ'[i]? = some (some v)) → ∃ F2, RelE K mg H' (vs.map some) (copyOut pr k ts ρ') F2 ∧ F2.Sublist F'
  | k, [], _, _, σ', ρ', F', .nil, _, _ => ⟨[], by unfold copyOut; exact .nil, List.nil_sublist _⟩
  | k, v :: vs, ts, F, σ', ρ', F', A, R, h => by
    -- the head's tree, the rest
    have parts : ∃ t ts0 F0, ts = t :: ts0 ∧ RelE K mg H (vs.map some) ts0 F0 ∧ (pureT t = true → Rep K mg H' t v []) := by
      cases A with
      | unb q => exact ⟨_, _, _, rfl, q, fun z => by cases z⟩
      | cons r q => exact ⟨_, _, _, rfl, q, fun z => by
          have eG := r.pure0 z
          subst eG
          exact r.stay ex fun b o hb _ => by cases hb⟩
    obtain ⟨t, ts0, F0, rfl, q, hp⟩ := parts
    cases R with
    | nil =>
      obtain ⟨F2, h1, h2⟩ := copyOut_rel ex (k := k + 1) (pr := pr) q (RelE.nil (K := K) (mg := mg) (H := H')) fun i v' e1 e2 => by
        have z := h (i + 1) v' (by simpa using e1) (by rw [show k + (i + 1) = k + 1 + i by omega]; exact e2)
        simpa using z
      by_cases c : pureT t = true
      · exact ⟨F2, by simp only [copyOut, c, if_true]; exact .cons (hp c) h1, h2⟩
      · exact ⟨F2, by simp only [copyOut, c, if_false]; exact .unb h1, h2⟩
    | @unb y σ2 ρ2 F3 R2 =>
      obtain ⟨F2, h1, h2⟩ := copyOut_rel ex (k := k + 1) (pr := pr) q R2 fun i v' e1 e2 => by
        have z := h (i + 1) v' (by simpa using e1) (by rw [show k + (i + 1) = k + 1 + i by omega]; exact e2)
        simpa using z
      by_cases c : pureT t = true
      · exact ⟨F2, by simp only [copyOut, c, if_true]; exact .cons (hp c) h1, h2⟩
      · exact ⟨F2, by simp only [copyOut, c, if_false, ite_self]; exact .unb h1, h2⟩
    | @cons y r0 σ2 ρ2 F3 G r R2 =>
      obtain ⟨F2, h1, h2⟩ := copyOut_rel ex (k := k + 1) (pr := pr) q R2 fun i v' e1 e2 => by
        have z := h (i + 1) v' (by simpa using e1) (by rw [show k + (i + 1) = k + 1 + i by omega]; exact e2)
        simpa using z
      by_cases c : pureT t = true
      · exact ⟨F2, by simp only [copyOut, c, if_true]; exact .cons (hp c) h1, h2.trans (List.sublist_append_right _ _)⟩
      · by_cases d : pr k = true
        · have z := h 0 v rfl (by simpa using d)
          simp at z
          subst z
          exact ⟨G ++ F2, by simp only [copyOut, c, d, if_false, if_true]; exact .cons r h1, (List.Sublist.refl G).append h2⟩
        · exact ⟨F2, by simp only [copyOut, c, d, if_false]; exact .unb h1, h2.trans (List.sublist_append_right _ _)⟩
theorem pad_rel {n : Nat} : ∀ {vs : List V} {ts : List T} {F : List Addr}, RelE K mg H (vs.map some) ts F → RelE K mg H (vs.map some ++ List.replicate n none) (ts ++ List.replicate n .unb) F
  | [], _, _, .nil => by
    induction n with
    | zero => exact .nil
    | succ n ih => exact .unb ih
  | v :: vs, _, _, .unb q => .unb (pad_rel q)
  | v :: vs, _, _, .cons r q => .cons r (pad_rel q)
end
section
variable {P : Program} {w : World} {K : PySem.W.Frag} {mg : Str → Option Value} {base : Heap}
abbrev BX (P : Program) (w : World) (K : PySem.W.Frag) (mg : Str → Option Value) (base : Heap) (N : List Str) (qual : Str) (sc : Scope) (f : Addr) (cd : Value) (A : Around) (outer : List Env) (s : Shared) (H : Hp) (E : XK) : Cx := cxOf (L2.CX P w) P w K mg base N qual sc f cd A outer s H E
abbrev BW (E : XK) : WX := fun cls d _ H' => E cls d H'
theorem takesB {N : List Str} {qual : Str} {sc : Scope} {f : Addr} {cd : Value} {A : Around} {outer : List Env} {s : Shared} {H : Hp} {E : XK} : Takes (BX P w K mg base N qual sc f cd A outer s H E) (BW E) := takes_of rfl rfl rfl rfl
theorem passB {N : List Str} {qual : Str} {sc : Scope} {f : Addr} {cd : Value} {A : Around} {outer : List Env} {s : Shared} {H : Hp} {E : XK} : PassesOwn (model P w) (BX P w K mg base N qual sc f cd A outer s H E).A (BX P w K mg base N qual sc f cd A outer s H E).env (BX P w K mg base N qual sc f cd A outer s H E).xe := passes_of rfl
theorem fnOk_of {x qual : Str} {st : Stmt} {f : Addr} {fd : FuncData} {N ps : List Str} {k n l : Nat} {pr : Nat → Bool} {fb : M Fl} (F : Fun K x qual st f fd) (S : FnScope N ps (defScope st)) (hn : ps.length = n) (hl : N.length = l)
    (hbody : ∀ (cd : Value) (A : Around) (outer : List Env) (s : Shared) (H : Hp) (E : XK), Room k (A.deeper (envOfC qual (defScope st) s.heap.objs.size f cd)) → FSs (BX P w K mg base N qual (defScope st) f cd A outer s H E) (BW E) pr (defBody st) fb) :
    FnOk P w K mg base (L2.CX P w) (k + 1) f fd ps (spF K mg n (fBody n l pr fb)) := by
  refine F.okX S (fun vs H Q E h => by rw [hn]; exact h.1) fun cdv A outer s H vs Q E hr h => ?_
  refine ⟨_, hbody cdv A outer s H E hr, ?_⟩
  obtain ⟨hlen, ts, F0, R, nd, h⟩ := h
  have htl : ts.length = n := by rw [← hlen, ← R.length, List.length_map]
  unfold fBody at h
  rw [if_pos htl] at h
  have es : L2.start N vs = vs.map some ++ List.replicate (l - n) none := by unfold L2.start; rw [hl, hlen]
  have get0 : ∀ (i : Nat) v, vs[i]? = some v → (L2.start N vs)[i]? = some (some v) := fun i v hi => by
    rw [es, List.getElem?_append_left (by rw [List.length_map]; exact (List.getElem?_eq_some_iff.mp hi).1), List.getElem?_map, hi]
    rfl
  refine ⟨ts ++ List.replicate (l - n) .unb, F0, by rw [es]; exact pad_rel R, nd, ?_⟩
  have fin : ∀ {ρ' : List T} {F' : List Addr} {σ' : St} {H' : Hp}, RelE K mg H' σ' ρ' F' → Step F0 H H' → Kept pr (L2.start N vs) σ' → ∃ F2, RelE K mg H' (vs.map some) (copyOut pr 0 ts ρ') F2 ∧ F2.Sublist F' := fun {ρ' F' σ' H'} R' st kp =>
    copyOut_rel st.ext R R' fun i v e1 e2 => (kp.2 i (by simpa using e2)).trans (get0 i v e1)
  cases e : fb (ts ++ List.replicate (l - n) .unb) with
  | none => rw [e] at h; exact h
  | some r =>
    rw [e] at h
    cases r with
    | exc x ρ' =>
      intro cls d σ' H' p
      obtain ⟨F', R', nd', fr, st, kp, rx⟩ := p
      obtain ⟨F2, R2, sub⟩ := fin R' st kp
      exact h cls d H' ⟨F2, R2, sub.nodup nd', fun x hx => fr x (sub.subset hx), st, rx⟩
    | ok fl ρ' =>
      cases fl with
      | nx =>
        intro σ' H' p
        obtain ⟨F', R', nd', fr, st, kp⟩ := p
        obtain ⟨F2, R2, sub⟩ := fin R' st kp
        exact h .non H' ⟨F2, [], R2, .non, by simpa using sub.nodup nd', fun x hx => fr x (sub.subset (by simpa using hx)), st⟩
      | rt t =>
        intro v H' p
        obtain ⟨σ', F', G, R', rt, nd', fr, st, kp⟩ := p
        obtain ⟨F2, R2, sub⟩ := fin R' st kp
        obtain ⟨n1, n2, dis⟩ := List.nodup_append.mp nd'
        refine h v H' ⟨F2, G, R2, rt, List.nodup_append.mpr ⟨sub.nodup n1, n2, fun x hx y hy e => dis x (sub.subset hx) y hy e⟩, fun x hx => ?_, st⟩
        rcases List.mem_append.mp hx with z | z
        · exact fr x (List.mem_append_left _ (sub.subset z))
        · exact fr x (List.mem_append_right _ z)
      | bk => exact h.elim
      | ct => exact h.elim

theorem Def.of {x qual : Str} {st : Stmt} {f : Addr} {fd : FuncData} {N ps : List Str} {k n l : Nat} {pr : Nat → Bool} {fb : M Fl} (F : Fun K x qual st f fd) (hm : mg x = some (.ref f)) (S : FnScope N ps (defScope st)) (b : Binds K fd ps []) (hn : ps.length = n) (hl : N.length = l)
    (hbody : ∀ (cd : Value) (A : Around) (outer : List Env) (s : Shared) (H : Hp) (E : XK), Room k (A.deeper (envOfC qual (defScope st) s.heap.objs.size f cd)) → FSs (BX P w K mg base N qual (defScope st) f cd A outer s H E) (BW E) pr (defBody st) fb) :
    Def P w K mg base x (k + 1) n (fBody n l pr fb) := ⟨fBody_ar, f, fd, ps, hm, F.kp, b, hn, fnOk_of F S hn hl hbody⟩

/-! ### the law's end -/
/-- the law's def, asked at a script, answers True -/
theorem law_end {m : M T} {n0 : Nat} {a : Addr} {H : Hp} {ns : List Int} (hO : L2.Only H) (hS : SqL K H a (ns.map V.int))
    (h : ∃ ts', m [.fro (ns.map .int)] = some (.ok (.bl true) ts')) (h2 : ∃ ts', m [.scr (ns.map .int)] = some (.ok (.bl true) ts')) : spF K mg 1 m [.ref a] H (fun v _ => v = .bl true) fun _ _ _ => False := by
  have hr : ∀ ns : List Int, Reps K mg H (ns.map .int) (ns.map V.int) := fun ns => by
    induction ns with
    | nil => exact .nil
    | cons n r ih => exact .cons (.int n) ih
  have fin : ∀ t, Rep K mg H t (.ref a) [] → (∃ ts', m [t] = some (.ok (.bl true) ts')) → spF K mg 1 m [.ref a] H (fun v _ => v = .bl true) fun _ _ _ => False := fun t r ⟨ts', e⟩ => by
    refine ⟨rfl, [t], [], .cons r .nil, List.nodup_nil, ?_⟩
    rw [e]
    intro v H' p
    obtain ⟨F1, G, R1, nd, r⟩ := p.st
    cases (show Rep K mg H' (.bl true) v G from r)
    rfl
  rcases hS with (hS | ⟨o, hS⟩) | hS
  · rcases hO a with z | ⟨o, xs, z⟩
    · rw [z] at hS; cases hS
    · rw [z] at hS; cases hS
  · exact fin _ (.fro ⟨o, hS⟩ (hr ns)) h
  · exact fin _ (.scr hS (hr ns)) h2
/-- a def that stands behind the top -/
theorem fact_mk {h : Heap} {x : Str} {st : Stmt} {ps : List Str} {f : Addr} {oc : Value} {od an : Option Addr} {sl : Array (Option Value)} {kV dc pm cd ct : Value} (X : K.In h) (G : h.Ns mainGlobals mg)
    (hb : ∀ (kV doc pm : Value) (an : Option Addr) (cdv ct : Value) (us : List Value), us.length = ps.length → bindArgs (PySem.W.fnOf x x (defArgs st) (defBody st) (defScope st) .none kV doc pm an cdv ct) ⟨us, []⟩ = pure (ps.zip us))
    (a : PySem.W.nsIn K mainGlobals x = some (some (.ref f))) (l : K.lookup f = some ⟨oc, od, .func (PySem.W.fnOf x x (defArgs st) (defBody st) (defScope st) .none kV dc pm an cd ct), sl⟩) (c : PySem.W.codeIn K cd x = true) (k : PySem.W.keepIn K (.ref f) = true) :
    ∃ f fd, mg x = some (.ref f) ∧ Fun K x x st f fd ∧ Binds K fd ps [] := by
  have F := fun_mk (st := st) l c k
  exact ⟨f, _, PySem.W.mg_of X G a, F, F.binds hb⟩
theorem val_mk {h : Heap} {x : Str} {u : Value} (X : K.In h) (G : h.Ns mainGlobals mg) (a : PySem.W.nsIn K mainGlobals x = some (some u)) : mg x = some u := PySem.W.mg_of X G a
theorem none_mk {h : Heap} {x : Str} (X : K.In h) (G : h.Ns mainGlobals mg) (a : PySem.W.nsIn K mainGlobals x = some none) : mg x = none := PySem.W.mg_none_of X G a
theorem law_mk {x : Str} {st : Stmt} {ps : List Str} {fa : Addr} {k : Nat} {sp : Sp} (hfa : mg x = some (.ref fa)) (p0 : Str) (hps : ps = [p0]) (hc : ∃ f fd, mg x = some (.ref f) ∧ Fun K x x st f fd ∧ Binds K fd ps [])
    (hb : ∀ (kV doc pm : Value) (an : Option Addr) (cdv ct : Value) (s : Shared) (v : Value), BindsTo s (PySem.W.fnOf x x (defArgs st) (defBody st) (defScope st) .none kV doc pm an cdv ct) ⟨[v], []⟩ [(p0, v)])
    (hF : ∀ (f : Addr) (fd : FuncData), mg x = some (.ref f) → Fun K x x st f fd → ∀ base : Heap, FnOk P w K mg base (L2.CX P w) k f fd ps sp) :
    ∃ fd : FuncData, (∀ (s : Shared) (v : Value), BindsTo s fd ⟨[v], []⟩ [(p0, v)]) ∧ ∀ base : Heap, K.In base → base.Ns mainGlobals mg → FnOk P w K mg base (L2.CX P w) k fa fd [p0] sp := by
  obtain ⟨f, fd, hm, F, _⟩ := hc
  have e : f = fa := by
    have z := hm.symm.trans hfa
    injection z with z; injection z
  subst e
  refine ⟨fd, ?_, fun base _ _ => by rw [← hps]; exact hF f fd hm F base⟩
  obtain ⟨oc, od, kV, doc, pm, an, cdv, ct, osl, rfl, lk, hcd⟩ := F.ex
  exact hb kV doc pm an cdv ct
theorem cx_false {H : Hp} {s : Shared} {e : Value} {s' : Shared} (h : L2.CX P w [] H s (fun _ _ _ => False) e s') : False := by
  obtain ⟨_, _, _, _, _, _, _, _, _, _, _, _, h⟩ := h
  exact h
/-- what is asked of the law's def -/
def spLaw (K : PySem.W.Frag) : Sp := fun vs H Q _ => ∃ (a : Addr) (ns : List Int), vs = [.ref a] ∧ ns.length ≤ 63 ∧ L2.Only H ∧ SqL K H a (ns.map V.int) ∧ ∀ H', Q (.bl true) H'
theorem law_fn {f : Addr} {fd : FuncData} {k : Nat} {ps : List Str} {m : M T} (F : FnOk P w K mg base (L2.CX P w) k f fd ps (spF K mg 1 m))
    (h : ∀ ns : List Int, ns.length ≤ 63 → (∃ ts', m [.fro (ns.map .int)] = some (.ok (.bl true) ts')) ∧ ∃ ts', m [.scr (ns.map .int)] = some (.ok (.bl true) ts')) : FnOk P w K mg base (L2.CX P w) k f fd ps (spLaw K) :=
  F.imp fun vs H Q E ⟨a, ns, hv, hl, hO, hS, q⟩ => by
    subst hv
    obtain ⟨h1, h2⟩ := h ns hl
    have z := law_end (mg := mg) (n0 := 0) hO hS h1 h2
    exact ⟨z.1, by
      obtain ⟨ρ, F1, R, nd, r⟩ := z.2
      refine ⟨ρ, F1, R, nd, ?_⟩
      cases e : m ρ with
      | none => rw [e] at r; exact r
      | some x =>
        rw [e] at r
        cases x with
        | exc y ρ1 => exact fun cls d H' p => (r cls d H' p).elim
        | ok t ρ1 =>
          intro v H' p
          have ev : v = .bl true := r v H' p
          rw [ev]
          exact q H'⟩
end
end FL
/-! FL8: the operators and built-in functions over trees -/
namespace FL
open PySem PySem.Spec L2

section
variable {K : PySem.W.Frag} {mg : Str → Option Value}
/-! ### ints -/
def g2I (t : Int → Int → T) : T → T → Option T
  | .int i, .int j => some (t i j)
  | _, _ => none
def g2C (c : Int → Int → Bool) (t : Int → Int → T) : T → T → Option T
  | .int i, .int j => if c i j = true then some (t i j) else none
  | _, _ => none
theorem s_2I {g : Int → Int → V} {t : Int → Int → T} (h : ∀ H i j, Rep K mg H (t i j) (g i j) []) : R2S K mg (rI0 g) (g2I t) := fun H a b x y Ga Gb r Q ra rb e k => by
  cases ra <;> cases rb <;> first
    | (cases e; exact ⟨_, _, rfl, rfl, k _ H [] New.refl (h H _ _)⟩)
    | cases e
theorem s_2C {g : Int → Int → V} {t : Int → Int → T} {C : Int → Int → Prop} {c : Int → Int → Bool} (hc : ∀ i j, c i j = true → C i j) (h : ∀ H i j, Rep K mg H (t i j) (g i j) []) : R2S K mg (rI C g) (g2C c t) := fun H a b x y Ga Gb r Q ra rb e k => by
  cases ra <;> cases rb <;> first
    | (rename_i i j
       simp only [g2C] at e
       by_cases hh : c i j = true
       · rw [if_pos hh] at e
         cases e
         exact ⟨_, _, rfl, rfl, hc _ _ hh, k _ H [] New.refl (h H _ _)⟩
       · rw [if_neg hh] at e; cases e)
    | cases e
theorem R2S.or {r r' : R2} {g g' : T → T → Option T} (h : R2S K mg r g) (h' : R2S K mg r' g') : R2S K mg (fun x y H Q => r x y H Q ∨ r' x y H Q) (fun a b => (g a b).or (g' a b)) := fun H a b x y Ga Gb t Q ra rb e k => by
  dsimp only at e
  cases e1 : g a b with
  | some z =>
    rw [e1] at e
    cases e
    exact .inl (h H a b x y Ga Gb _ Q ra rb e1 k)
  | none =>
    rw [e1] at e
    exact .inr (h' H a b x y Ga Gb _ Q ra rb e k)
def mulOk (i j : Int) : Bool := decide (i.natAbs < 18446744073709551616) || decide (j.natAbs < 18446744073709551616) || decide (i.natAbs.log2 + j.natAbs.log2 < 1000000)
def divOk (i j : Int) : Bool := decide (0 < j) && (decide (j < 1073741824) || decide (j.natAbs.log2 < 9000))
def modOk (_ j : Int) : Bool := decide (0 < j)
def powOk (i j : Int) : Bool := decide (0 ≤ j) && decide (j ≤ 1000000) && decide (i.natAbs < 18446744073709551616)
abbrev gSub := g2I fun i j => .int (i - j)
abbrev gMulI := g2C mulOk fun i j => .int (i * j)
abbrev gFdiv := g2C divOk fun i j => .int (i / j)
abbrev gMod := g2C modOk fun i j => .int (i % j)
abbrev gPow := g2C powOk fun i j => .int (i ^ j.toNat)
abbrev gShl := g2C powOk fun i j => .int (i * 2 ^ j.toNat)
abbrev gLt := g2I fun i j => .bl (decide (i < j))
abbrev gLe := g2I fun i j => .bl (decide (i ≤ j))
abbrev gGt := g2I fun i j => .bl (decide (j < i))
abbrev gGe := g2I fun i j => .bl (decide (j ≤ i))
theorem s_sub : R2S K mg (rI0 fun i j => .int (i - j)) gSub := s_2I fun _ _ _ => .int _
theorem s_lt : R2S K mg (rI0 fun i j => .bl (decide (i < j))) gLt := s_2I fun _ _ _ => .bl _
theorem s_le : R2S K mg (rI0 fun i j => .bl (decide (i ≤ j))) gLe := s_2I fun _ _ _ => .bl _
theorem s_gt : R2S K mg (rI0 fun i j => .bl (decide (j < i))) gGt := s_2I fun _ _ _ => .bl _
theorem s_ge : R2S K mg (rI0 fun i j => .bl (decide (j ≤ i))) gGe := s_2I fun _ _ _ => .bl _
theorem s_mod : R2S K mg (rI (fun _ j => 0 < j) fun i j => .int (i % j)) gMod := s_2C (fun i j h => of_decide_eq_true h) fun _ _ _ => .int _
theorem s_pow : R2S K mg (rI CPow fun i j => .int (i ^ j.toNat)) gPow := s_2C (fun i j h => by
  unfold powOk at h
  simp only [Bool.and_eq_true, decide_eq_true_eq] at h
  exact ⟨h.1.1, h.1.2, h.2⟩) fun _ _ _ => .int _
theorem s_shl : R2S K mg (rI CPow fun i j => .int (i * 2 ^ j.toNat)) gShl := s_2C (fun i j h => by
  unfold powOk at h
  simp only [Bool.and_eq_true, decide_eq_true_eq] at h
  exact ⟨h.1.1, h.1.2, h.2⟩) fun _ _ _ => .int _
def CDivA (i j : Int) : Prop := CDiv i j ∨ CDivW i j
def CMulA (i j : Int) : Prop := CMul i j ∨ CMulW i j
theorem rI_or {C C' : Int → Int → Prop} {g : Int → Int → V} {x y : V} {H : Hp} {Q : VK} (h : rI (fun i j => C i j ∨ C' i j) g x y H Q) : rI C g x y H Q ∨ rI C' g x y H Q := by
  obtain ⟨i, j, e1, e2, c, q⟩ := h
  exact c.imp (fun c => ⟨i, j, e1, e2, c, q⟩) fun c => ⟨i, j, e1, e2, c, q⟩
theorem OpR.imp {X : Cx} {f : Value → Value → Sem Value} {r r' : R2} (h : OpR X f r) (i : ∀ x y H Q, r' x y H Q → r x y H Q) : OpR X f r' := fun pins s σ H x y v u Q I rx ry q => h pins s σ H x y v u Q I rx ry (i _ _ _ _ q)
theorem PIp.imp {X : Cx} {op : Operator} {r r' : R2} (h : PIp X op r) (i : ∀ x y H Q, r' x y H Q → r x y H Q) : PIp X op r' := fun pins s σ H x y v u Q I rx ry q => h pins s σ H x y v u Q I rx ry (i _ _ _ _ q)
theorem op_fdivA {X : Cx} : OpR X (binaryOp .FloorDiv) (rI CDivA fun i j => .int (i / j)) := OpR.imp (op_fdiv.or op_fdivW) fun _ _ _ _ h => rI_or h
theorem op_mulA {X : Cx} : OpR X (binaryOp .Mult) (rI CMulA fun i j => .int (i * j)) := OpR.imp (op_mul.or op_mulW) fun _ _ _ _ h => rI_or h
theorem s_fdiv : R2S K mg (rI CDivA fun i j => .int (i / j)) gFdiv := s_2C (fun i j h => by
  unfold divOk at h
  simp only [Bool.and_eq_true, Bool.or_eq_true, decide_eq_true_eq] at h
  rcases h with ⟨h1, h2 | h2⟩
  · exact .inl ⟨h1, h2⟩
  · exact .inr ⟨h1, h2⟩) fun _ _ _ => .int _
theorem s_mul : R2S K mg (rI CMulA fun i j => .int (i * j)) gMulI := s_2C (fun i j h => by
  unfold mulOk at h
  simp only [Bool.or_eq_true, decide_eq_true_eq] at h
  rcases h with (h | h) | h
  · exact .inl (.inl (by omega))
  · exact .inl (.inr (by omega))
  · exact .inr h) fun _ _ _ => .int _
def gNeg : T → Option T
  | .int i => some (.int (-i))
  | _ => none
theorem s_neg : R1S K mg (rU fun i => .int (-i)) gNeg := fun H a x Ga t Q ra e k => by
  cases ra <;> first
    | (cases e; exact ⟨_, rfl, k _ H [] New.refl (.int _)⟩)
    | cases e

/-! ### + of ints, texts, lists, tuples -/
/-- list + list, one's own or known for good -/
def rCatL : R2 := fun x y H Q => ∃ l b xs zs, x = .ref l ∧ y = .ref b ∧ Rd H l (.lst xs) ∧ Rd H b (.lst zs) ∧ xs.length + zs.length ≤ sizeLine ∧ ∀ p, H p = none → Q (.ref p) (upd H p (.lst (xs ++ zs)))
theorem op_catL {X : Cx} : OpR X (binaryOp .Add) rCatL := by
  intro pins s σ H x y v u Q I rx ry h
  obtain ⟨l, b, xs, zs, rfl, rfl, hH, hB, hz, q⟩ := h
  cases rx
  cases ry
  obtain ⟨z, its, n, r, e⟩ := hH.ok I.hok
  obtain ⟨z2, its2, n2, r2, e2⟩ := hB.ok I.hok
  have hl := r.length
  have hl2 := r2.length
  have hsz : its.toArray.size + its2.toArray.size ≤ sizeLine := by rw [List.size_toArray, List.size_toArray]; omega
  refine PySem.P.add_list e e2 ?_ hsz
  have ea : its.toArray ++ its2.toArray = (its ++ its2).toArray := by simp
  rw [ea]
  exact ⟨.ref _, _, I.lnew (t' := s.toks) (r.append r2) (by rw [List.length_append]; omega), rfl, q _ I.fresh⟩
/-- the items of a list -/
def itL : T → Option (List T)
  | .lst ts => some ts
  | .fro ts => some ts
  | .scr ts => some ts
  | _ => none
theorem itL_rep {H : Hp} {t : T} {v : V} {G : List Addr} {ts : List T} (r : Rep K mg H t v G) (e : itL t = some ts) : ∃ a xs, v = .ref a ∧ SqL K H a xs ∧ Reps K mg H ts xs := by
  cases r with
  | fro h rs => cases e; exact ⟨_, _, rfl, h.sq, rs⟩
  | scr h rs => cases e; exact ⟨_, _, rfl, h.sq, rs⟩
  | lst h rs => cases e; exact ⟨_, _, rfl, SqL.of h, rs⟩
  | _ => cases e
/-- the items of a list of the call's own -/
def itO : T → Option (List T)
  | .lst ts => some ts
  | .fro ts => some ts
  | _ => none
theorem itO_rep {H : Hp} {t : T} {v : V} {G : List Addr} {ts : List T} (r : Rep K mg H t v G) (e : itO t = some ts) : ∃ a xs, v = .ref a ∧ Rd H a (.lst xs) ∧ Reps K mg H ts xs := by
  cases r with
  | fro h rs => cases e; exact ⟨_, _, rfl, .inr h, rs⟩
  | lst h rs => cases e; exact ⟨_, _, rfl, .inl h, rs⟩
  | _ => cases e
/-- the items of a list or a tuple -/
def itS : T → Option (List T)
  | .lst ts => some ts
  | .fro ts => some ts
  | .scr ts => some ts
  | .tup ts => some ts
  | _ => none
theorem itS_rep {H : Hp} {t : T} {v : V} {G : List Addr} {ts : List T} (r : Rep K mg H t v G) (e : itS t = some ts) : ∃ a xs, v = .ref a ∧ (SqL K H a xs ∨ SqT K H a xs) ∧ Reps K mg H ts xs := by
  cases r with
  | fro h rs => cases e; exact ⟨_, _, rfl, .inl h.sq, rs⟩
  | scr h rs => cases e; exact ⟨_, _, rfl, .inl h.sq, rs⟩
  | lst h rs => cases e; exact ⟨_, _, rfl, .inl (SqL.of h), rs⟩
  | tup h rs => cases e; exact ⟨_, _, rfl, .inr h, rs⟩
  | _ => cases e
def gAddS : T → T → Option T
  | .str a, .str b => if a.length + b.length ≤ sizeLine then some (.str (a ++ b)) else none
  | _, _ => none
def gAddT : T → T → Option T
  | .tup a, .tup b => if a.length + b.length ≤ sizeLine then some (.tup (a ++ b)) else none
  | _, _ => none
def gAddL (x y : T) : Option T := match itO x, itO y with
  | some a, some b => if a.length + b.length ≤ sizeLine then some (.lst (a ++ b)) else none
  | _, _ => none
theorem s_addS : R2S K mg (fun x y H Q => ∃ i j, x = .str i ∧ y = .str j ∧ i.length + j.length ≤ sizeLine ∧ Q (.str (i ++ j)) H) gAddS := fun H a b x y Ga Gb t Q ra rb e k => by
  cases ra <;> cases rb <;> first
    | (rename_i i j
       simp only [gAddS] at e
       by_cases h : i.length + j.length ≤ sizeLine
       · rw [if_pos h] at e
         cases e
         exact ⟨_, _, rfl, rfl, h, k _ H [] New.refl (.str _)⟩
       · rw [if_neg h] at e; cases e)
    | cases e
theorem new_tup {H : Hp} {p : Addr} {ts : List T} {xs : List V} (hp : H p = none) (r : Reps K mg H ts xs) : Rep K mg (upd H p (.tup xs)) (.tup ts) (.ref p) [] := .tup (SqT.of upd_same) (r.same (New.one hp).same)
theorem new_lst {H : Hp} {p : Addr} {ts : List T} {xs : List V} (hp : H p = none) (r : Reps K mg H ts xs) : Rep K mg (upd H p (.lst xs)) (.lst ts) (.ref p) [p] := .lst upd_same (r.same (New.one hp).same)
theorem Reps.nil_of {H : Hp} {ts : List T} {xs : List V} (r : Reps K mg H ts xs) : xs = [] ↔ ts = [] := by
  cases r <;> simp
theorem s_addT : R2S K mg (rCatA K) gAddT := fun H a b x y Ga Gb t Q ra rb e k => by
  cases ra with
  | @tup la xs as ha rs =>
    cases rb with
    | @tup lb ys bs hb rs2 =>
      simp only [gAddT] at e
      by_cases h : as.length + bs.length ≤ sizeLine
      · rw [if_pos h] at e
        cases e
        refine ⟨la, lb, xs, ys, rfl, rfl, ha, hb, by rw [← rs.length, ← rs2.length]; exact h, fun hx => ?_, fun hx hy => ?_, fun hx hy p hp => k _ _ [] (New.one hp).drop (new_tup hp (rs.append rs2))⟩
        · have : as = [] := rs.nil_of.mp hx
          subst this
          exact k _ H [] New.refl (.tup hb rs2)
        · have : bs = [] := rs2.nil_of.mp hy
          subst this
          rw [List.append_nil] at k
          exact k _ H [] New.refl (.tup ha rs)
      · rw [if_neg h] at e; cases e
    | _ => cases e
  | _ => cases rb <;> cases e
theorem s_addL : R2S K mg rCatL gAddL := fun H a b x y Ga Gb t Q ra rb e k => by
  unfold gAddL at e
  cases e1 : itO a with
  | none => rw [e1] at e; cases e
  | some as =>
    cases e2 : itO b with
    | none => rw [e1, e2] at e; cases e
    | some bs =>
      rw [e1, e2] at e
      simp only [] at e
      by_cases h : as.length + bs.length ≤ sizeLine
      · rw [if_pos h] at e
        cases e
        obtain ⟨la, xs, rfl, ha, rs⟩ := itO_rep ra e1
        obtain ⟨lb, ys, rfl, hb, rs2⟩ := itO_rep rb e2
        exact ⟨la, lb, xs, ys, rfl, rfl, ha, hb, by rw [← rs.length, ← rs2.length]; exact h, fun p hp => k _ _ [p] (New.one hp) (new_lst hp (rs.append rs2))⟩
      · rw [if_neg h] at e; cases e
def gAddI := g2I fun i j => .int (i + j)
def gAdd (a b : T) : Option T := (gAddI a b).or ((gAddS a b).or ((gAddT a b).or (gAddL a b)))
def rAddA (K : PySem.W.Frag) : R2 := fun x y H Q => rI0 (fun i j => .int (i + j)) x y H Q ∨ (∃ i j, x = .str i ∧ y = .str j ∧ i.length + j.length ≤ sizeLine ∧ Q (.str (i ++ j)) H) ∨ rCatA K x y H Q ∨ rCatL x y H Q
theorem op_addA {X : Cx} : OpR X (binaryOp .Add) (rAddA X.K) := op_add.or (op_add_str.or (op_catA.or op_catL))
theorem s_add : R2S K mg (rAddA K) gAdd := (s_2I (t := fun i j => .int (i + j)) fun _ _ _ => .int _).or (s_addS.or (s_addT.or s_addL))
/-! ### x += e -/
theorem ip_strA {X : Cx} : PIp X .Add (fun x y H Q => ∃ i j, x = .str i ∧ y = .str j ∧ i.length + j.length ≤ sizeLine ∧ Q (.str (i ++ j)) H) := by
  intro pins s σ H x y v u Q I rx ry h
  exact iop_add_str pins s σ H x y v u Q I rx ry h
theorem ip_addI {X : Cx} : PIp X .Add (rI0 fun i j => .int (i + j)) := fun pins s σ H x y v u Q I rx ry h => iop_add pins s σ H x y v u Q I rx ry h
theorem ip_subI {X : Cx} : PIp X .Sub (rI0 fun i j => .int (i - j)) := fun pins s σ H x y v u Q I rx ry h => iop_sub pins s σ H x y v u Q I rx ry h
theorem PIp.or {X : Cx} {op : Operator} {r r' : R2} (h : PIp X op r) (h' : PIp X op r') : PIp X op (fun x y H Q => r x y H Q ∨ r' x y H Q) := fun pins s σ H x y v u Q I rx ry q => q.elim (h pins s σ H x y v u Q I rx ry) (h' pins s σ H x y v u Q I rx ry)
def gIadd (a b : T) : Option T := (gAddI a b).or (gAddS a b)
def rIadd : R2 := fun x y H Q => rI0 (fun i j => .int (i + j)) x y H Q ∨ (∃ i j, x = .str i ∧ y = .str j ∧ i.length + j.length ≤ sizeLine ∧ Q (.str (i ++ j)) H)
theorem ip_addA {X : Cx} : PIp X .Add rIadd := PIp.or ip_addI ip_strA
theorem s_iadd : R2S K mg rIadd gIadd := (s_2I (t := fun i j => .int (i + j)) fun _ _ _ => .int _).or s_addS

/-! ### == -/
mutual
def dOf : T → Option PyData
  | .non => some .none
  | .bl b => some (.bool b)
  | .int i => some (.int i)
  | .str x => some (.str x)
  | .tup ts => (dOfL ts).map .tuple
  | .fro ts => (dOfL ts).map .list
  | .scr ts => (dOfL ts).map .list
  | .lst ts => (dOfL ts).map .list
  | _ => none
def dOfL : List T → Option (List PyData)
  | [] => some []
  | t :: ts => (dOf t).bind fun d => (dOfL ts).map fun ds => d :: ds
end
mutual
theorem dOf_rep {H : Hp} : ∀ {t : T} {v : V} {G : List Addr} {d : PyData}, Rep K mg H t v G → dOf t = some d → Dp K H v d
  | _, _, _, _, .non, e => by simp [dOf] at e; subst e; exact .non
  | _, _, _, _, .bl b, e => by simp [dOf] at e; subst e; exact .bl b
  | _, _, _, _, .int b, e => by simp [dOf] at e; subst e; exact .int b
  | _, _, _, _, .str b, e => by simp [dOf] at e; subst e; exact .str b
  | _, _, _, _, .tup h r, e => by
    simp only [dOf, Option.map_eq_some_iff] at e
    obtain ⟨ds, e1, e2⟩ := e
    subst e2
    exact .tup h (dOfL_rep r e1)
  | _, _, _, _, .fro h r, e => by
    simp only [dOf, Option.map_eq_some_iff] at e
    obtain ⟨ds, e1, e2⟩ := e
    subst e2
    exact .lst h.sq (dOfL_rep r e1)
  | _, _, _, _, .scr h r, e => by
    simp only [dOf, Option.map_eq_some_iff] at e
    obtain ⟨ds, e1, e2⟩ := e
    subst e2
    exact .lst h.sq (dOfL_rep r e1)
  | _, _, _, _, .lst h r, e => by
    simp only [dOf, Option.map_eq_some_iff] at e
    obtain ⟨ds, e1, e2⟩ := e
    subst e2
    exact .lst (SqL.of h) (dOfL_rep r e1)
  | _, _, _, _, .dK _ _, e => by simp [dOf] at e
  | _, _, _, _, .dT _ _, e => by simp [dOf] at e
  | _, _, _, _, .ins _ _ _, e => by simp [dOf] at e
theorem dOfL_rep {H : Hp} : ∀ {ts : List T} {vs : List V} {ds : List PyData}, Reps K mg H ts vs → dOfL ts = some ds → DpAll K H vs ds
  | _, _, _, .nil, e => by simp [dOfL] at e; subst e; exact .nil
  | _, _, _, .cons r rs, e => by
    simp only [dOfL, Option.bind_eq_some_iff, Option.map_eq_some_iff] at e
    obtain ⟨d, e1, ds, e2, e3⟩ := e
    subst e3
    exact .cons (dOf_rep r e1) (dOfL_rep rs e2)
end
/-- flat things that == tells apart at once -/
def eqS : T → T → Option Bool
  | .int i, .int j => some (decide (i = j))
  | .str x, .str y => some (decide (x = y))
  | .bl a, .bl b => some (decide (a = b))
  | .non, .non => some true
  | .non, .int _ => some false | .int _, .non => some false | .non, .bl _ => some false | .bl _, .non => some false | .non, .str _ => some false | .str _, .non => some false
  | .int _, .str _ => some false | .str _, .int _ => some false | .bl _, .str _ => some false | .str _, .bl _ => some false
  | _, _ => none
def eqD (a b : T) : Option Bool := match dOf a, dOf b with
  | some d, some e => if (SeqAt.shaped d && SeqAt.shaped e) = true then some (PyData.eqv d e) else none
  | _, _ => none
def eqA (a b : T) : Option Bool := (eqS a b).or (eqD a b)
def gEq (a b : T) : Option T := (eqA a b).map .bl
def gNe (a b : T) : Option T := (eqA a b).map fun k => .bl !k
theorem eqS_rep {H : Hp} {a b : T} {x y : V} {Ga Gb : List Addr} {k : Bool} (ra : Rep K mg H a x Ga) (rb : Rep K mg H b y Gb) (e : eqS a b = some k) : scal x y = true ∧ k = decide (x = y) := by
  cases ra <;> cases rb <;> simp only [eqS] at e <;> first
    | (cases e; refine ⟨rfl, ?_⟩; simp)
    | cases e
theorem s_eq : R2S K mg (fun x y H Q => rEq x y H Q ∨ rEqD K x y H Q) gEq := fun H a b x y Ga Gb t Q ra rb e k => by
  unfold gEq eqA at e
  cases e1 : eqS a b with
  | some z =>
    rw [e1] at e
    cases e
    obtain ⟨h1, h2⟩ := eqS_rep ra rb e1
    subst h2
    exact .inl ⟨h1, k _ H [] New.refl (.bl _)⟩
  | none =>
    rw [e1] at e
    simp only [Option.none_or] at e
    unfold eqD at e
    cases e2 : dOf a with
    | none => rw [e2] at e; cases e
    | some d =>
      cases e3 : dOf b with
      | none => rw [e2, e3] at e; cases e
      | some d2 =>
        rw [e2, e3] at e
        simp only [] at e
        by_cases h : (SeqAt.shaped d && SeqAt.shaped d2) = true
        · rw [if_pos h] at e
          rw [Bool.and_eq_true] at h
          cases e
          exact .inr ⟨d, d2, dOf_rep ra e2, dOf_rep rb e3, h.1, h.2, k _ H [] New.refl (.bl _)⟩
        · rw [if_neg h] at e; cases e
theorem s_ne : R2S K mg (fun x y H Q => rNe x y H Q ∨ rNeD K x y H Q) gNe := fun H a b x y Ga Gb t Q ra rb e k => by
  unfold gNe eqA at e
  cases e1 : eqS a b with
  | some z =>
    rw [e1] at e
    cases e
    obtain ⟨h1, h2⟩ := eqS_rep ra rb e1
    subst h2
    exact .inl ⟨h1, k _ H [] New.refl (.bl _)⟩
  | none =>
    rw [e1] at e
    simp only [Option.none_or] at e
    unfold eqD at e
    cases e2 : dOf a with
    | none => rw [e2] at e; cases e
    | some d =>
      cases e3 : dOf b with
      | none => rw [e2, e3] at e; cases e
      | some d2 =>
        rw [e2, e3] at e
        simp only [] at e
        by_cases h : (SeqAt.shaped d && SeqAt.shaped d2) = true
        · rw [if_pos h] at e
          rw [Bool.and_eq_true] at h
          cases e
          exact .inr ⟨d, d2, dOf_rep ra e2, dOf_rep rb e3, h.1, h.2, k _ H [] New.refl (.bl _)⟩
        · rw [if_neg h] at e; cases e
theorem op_eqA {X : Cx} (hu : X.A.units + 64 < cLine) : OpR X (compareOp .Eq) (fun x y H Q => rEq x y H Q ∨ rEqD X.K x y H Q) := op_eq.or (op_eqD hu)
theorem op_neA {X : Cx} (hu : X.A.units + 64 < cLine) : OpR X (compareOp .NotEq) (fun x y H Q => rNe x y H Q ∨ rNeD X.K x y H Q) := op_ne.or (op_neD hu)

/-! ### is None -/
def gIsN : T → T → Option T
  | a, .non => some (.bl (match a with | .non => true | _ => false))
  | _, _ => none
def gNotN : T → T → Option T
  | a, .non => some (.bl (match a with | .non => false | _ => true))
  | _, _ => none
theorem s_isN : R2S K mg (fun x y H Q => y = .non ∧ Q (.bl (decide (x = .non))) H) gIsN := fun H a b x y Ga Gb t Q ra rb e k => by
  cases rb <;> first
    | (cases ra <;> cases e <;> exact ⟨rfl, k _ H [] New.refl (.bl _)⟩)
    | (cases ra <;> cases e)
theorem s_notN : R2S K mg (fun x y H Q => y = .non ∧ Q (.bl (!decide (x = .non))) H) gNotN := fun H a b x y Ga Gb t Q ra rb e k => by
  cases rb <;> first
    | (cases ra <;> cases e <;> exact ⟨rfl, k _ H [] New.refl (.bl _)⟩)
    | (cases ra <;> cases e)

/-! ### in -/
def gInS : T → T → Option T
  | .str x, .str z => match x.cps.toList with
    | [c] => some (.bl (decide (c ∈ z.cps.toList)))
    | _ => none
  | _, _ => none
def flatT : T → Bool
  | .non => true | .bl _ => true | .int _ => true | .str _ => true
  | _ => false
/-- == of flat trees -/
def eqFl : T → T → Bool
  | .non, .non => true
  | .bl a, .bl b => a == b
  | .bl a, .int b => (if a then 1 else 0) == b
  | .int a, .bl b => a == (if b then 1 else 0)
  | .int a, .int b => a == b
  | .str a, .str b => a == b
  | _, _ => false
def inQ (a : T) (ts : List T) : Bool := ts.any fun y => eqFl y a
def gInQ (a b : T) : Option T := match itS b with
  | some ts => if (flatT a && ts.all flatT) = true then some (.bl (inQ a ts)) else none
  | none => none
def notT : T → T
  | .bl b => .bl !b
  | t => t
def gIn (a b : T) : Option T := (gInS a b).or (gInQ a b)
def gNotIn (a b : T) : Option T := (gIn a b).map notT
theorem flat_rep {H : Hp} {t : T} {v : V} {G : List Addr} (r : Rep K mg H t v G) (h : flatT t = true) : flatV v = true := by
  cases r <;> first | rfl | cases h
theorem eqFl_rep {H : Hp} {t u : T} {v w : V} {G G' : List Addr} (r : Rep K mg H t v G) (r' : Rep K mg H u w G') (h : flatT t = true) (h' : flatT u = true) : eqFl t u = eqV v w := by
  cases r <;> cases r' <;> first | rfl | cases h | cases h'
theorem flats_rep {H : Hp} : ∀ {ts : List T} {xs : List V}, Reps K mg H ts xs → ts.all flatT = true → xs.all flatV = true
  | _, _, .nil, _ => rfl
  | _, _, .cons r rs, h => by
    rw [List.all_cons, Bool.and_eq_true] at h ⊢
    exact ⟨flat_rep r h.1, flats_rep rs h.2⟩
theorem inQ_rep {H : Hp} {a : T} {x : V} {G : List Addr} (ra : Rep K mg H a x G) (ha : flatT a = true) : ∀ {ts : List T} {xs : List V}, Reps K mg H ts xs → ts.all flatT = true → inQ a ts = inV x xs
  | _, _, .nil, _ => rfl
  | _, _, .cons r rs, h => by
    rw [List.all_cons, Bool.and_eq_true] at h
    unfold inQ inV
    rw [List.any_cons, List.any_cons, eqFl_rep r ra h.1 ha]
    exact congrArg _ (inQ_rep ra ha rs h.2)
theorem cps_of {x : Str} {c : Nat} (h : x.cps.toList = [c]) : x = ⟨#[c]⟩ := by
  obtain ⟨a⟩ := x
  have : a = [c].toArray := by rw [← h]
  rw [this]
def rInA (K : PySem.W.Frag) : R2 := fun x y H Q => (∃ (c : Nat) (z : Str), x = .str ⟨#[c]⟩ ∧ y = .str z ∧ Q (.bl (decide (c ∈ z.cps.toList))) H) ∨ rIn K false x y H Q
def rNotInA (K : PySem.W.Frag) : R2 := fun x y H Q => (∃ (c : Nat) (z : Str), x = .str ⟨#[c]⟩ ∧ y = .str z ∧ Q (.bl (!decide (c ∈ z.cps.toList))) H) ∨ rIn K true x y H Q
theorem op_inA {X : Cx} : OpR X (compareOp .In) (rInA X.K) := op_in_sign.or op_in_seq
theorem op_notInA {X : Cx} : OpR X (compareOp .NotIn) (rNotInA X.K) := op_notIn_sign.or op_notIn_seq
theorem gIn_rep {H : Hp} {a b : T} {x y : V} {Ga Gb : List Addr} {t : T} (ra : Rep K mg H a x Ga) (rb : Rep K mg H b y Gb) (e : gIn a b = some t) :
    (∃ (c : Nat) (z : Str), x = .str ⟨#[c]⟩ ∧ y = .str z ∧ t = .bl (decide (c ∈ z.cps.toList))) ∨ ∃ p xs, y = .ref p ∧ (SqL K H p xs ∨ SqT K H p xs) ∧ flatV x = true ∧ xs.all flatV = true ∧ t = .bl (inV x xs) := by
  unfold gIn at e
  cases e1 : gInS a b with
  | some z =>
    rw [e1] at e
    cases e
    cases ra <;> cases rb <;> first
      | (simp only [gInS] at e1
         rename_i x z
         split at e1
         · rename_i c hc
           cases e1
           have ex := cps_of hc
           subst ex
           exact .inl ⟨c, z, rfl, rfl, rfl⟩
         · cases e1)
      | cases e1
  | none =>
    rw [e1] at e
    simp only [Option.none_or] at e
    unfold gInQ at e
    cases e2 : itS b with
    | none => rw [e2] at e; cases e
    | some ts =>
      rw [e2] at e
      simp only [] at e
      by_cases h : (flatT a && ts.all flatT) = true
      · rw [if_pos h] at e
        rw [Bool.and_eq_true] at h
        cases e
        obtain ⟨p, xs, rfl, hq, rs⟩ := itS_rep rb e2
        exact .inr ⟨p, xs, rfl, hq, flat_rep ra h.1, flats_rep rs h.2, by rw [inQ_rep ra h.1 rs h.2]⟩
      · rw [if_neg h] at e; cases e
theorem s_in : R2S K mg (rInA K) gIn := fun H a b x y Ga Gb t Q ra rb e k => by
  rcases gIn_rep ra rb e with ⟨c, z, rfl, rfl, rfl⟩ | ⟨p, xs, rfl, hq, f1, f2, rfl⟩
  · exact .inl ⟨c, z, rfl, rfl, k _ H [] New.refl (.bl _)⟩
  · exact .inr ⟨p, xs, rfl, hq, f1, f2, k _ H [] New.refl (.bl _)⟩
theorem s_notIn : R2S K mg (rNotInA K) gNotIn := fun H a b x y Ga Gb t Q ra rb e k => by
  unfold gNotIn at e
  obtain ⟨t0, e1, rfl⟩ := Option.map_eq_some_iff.mp e
  rcases gIn_rep ra rb e1 with ⟨c, z, rfl, rfl, rfl⟩ | ⟨p, xs, rfl, hq, f1, f2, rfl⟩
  · exact .inl ⟨c, z, rfl, rfl, k _ H [] New.refl (.bl _)⟩
  · exact .inr ⟨p, xs, rfl, hq, f1, f2, k _ H [] New.refl (.bl _)⟩

/-! ### subscripts -/
def gIx : T → T → Option T
  | .str z, .int i => if z.length ≤ sizeLine then (atI z.cps.toList i).map fun c => .str ⟨#[c]⟩ else none
  | .tup ts, .int i => atI ts i
  | .fro ts, .int i => atI ts i
  | .scr ts, .int i => atI ts i
  | .lst ts, .int i => atI ts i
  | _, _ => none
def rIxA (K : PySem.W.Frag) : R2 := fun x y H Q => rIxL K x y H Q ∨ rIxT K x y H Q ∨ rIxS x y H Q
theorem ix_all {X : Cx} : IxR X (rIxA X.K) := ix_list.or (ix_tup.or ix_str)
theorem s_ix : R2S K mg (rIxA K) gIx := fun H a b x y Ga Gb t Q ra rb e k => by
  cases rb with
  | int i =>
    cases ra with
    | str z =>
      simp only [gIx] at e
      by_cases h : z.length ≤ sizeLine
      · rw [if_pos h] at e
        obtain ⟨c, e1, rfl⟩ := Option.map_eq_some_iff.mp e
        exact .inr (.inr ⟨z, i, c, rfl, rfl, h, e1, k _ H [] New.refl (.str _)⟩)
      · rw [if_neg h] at e; cases e
    | tup hq rs =>
      obtain ⟨v, h1, h2⟩ := atI_rep rs e
      exact .inr (.inl ⟨_, _, i, v, rfl, rfl, hq, h1, k _ H [] New.refl h2⟩)
    | fro hq rs =>
      obtain ⟨v, h1, h2⟩ := atI_rep rs e
      exact .inl ⟨_, _, i, v, rfl, rfl, hq.sq, h1, k _ H [] New.refl h2⟩
    | scr hq rs =>
      obtain ⟨v, h1, h2⟩ := atI_rep rs e
      exact .inl ⟨_, _, i, v, rfl, rfl, hq.sq, h1, k _ H [] New.refl h2⟩
    | lst hq rs =>
      obtain ⟨v, h1, h2⟩ := atI_rep rs e
      exact .inl ⟨_, _, i, v, rfl, rfl, SqL.of hq, h1, k _ H [] New.refl h2⟩
    | _ => cases e
  | _ => cases ra <;> cases e
/-! ### slices -/
def cutT (ts : List T) (lo hi : Option Int) : List T := (ts.drop (HT.sIx ts.length 0 lo)).take (HT.sIx ts.length ts.length hi - HT.sIx ts.length 0 lo)
def gSl : T → Option Int → Option Int → Option T
  | .str z, lo, hi => if z.length ≤ sizeLine then some (.str (cutS z lo hi)) else none
  | .tup ts, lo, hi => some (.tup (cutT ts lo hi))
  | .fro ts, lo, hi => some (.lst (cutT ts lo hi))
  | .lst ts, lo, hi => some (.lst (cutT ts lo hi))
  | _, _, _ => none
theorem cut_rep {H : Hp} {ts : List T} {xs : List V} {lo hi : Option Int} (r : Reps K mg H ts xs) : Reps K mg H (cutT ts lo hi) (cutV xs lo hi) := by
  unfold cutT cutV
  rw [r.length]
  exact (r.drop _).take _
def rSlAll (K : PySem.W.Frag) : V → Option Int → Option Int → Hp → VK → Prop := fun x lo hi H Q => rSlL K x lo hi H Q ∨ rSlA K x lo hi H Q ∨ rSlS x lo hi H Q
theorem sl_all {X : Cx} : SlR X (rSlAll X.K) := sl_list.or (sl_tupA.or sl_str)
theorem s_sl : RSlS K mg (rSlAll K) gSl := fun H a x Ga lo hi t Q ra e k => by
  cases ra with
  | str z =>
    simp only [gSl] at e
    by_cases h : z.length ≤ sizeLine
    · rw [if_pos h] at e
      cases e
      exact .inr (.inr ⟨z, rfl, h, k _ H [] New.refl (.str _)⟩)
    · rw [if_neg h] at e; cases e
  | @tup a xs ts hq rs =>
    cases e
    refine .inr (.inl ⟨a, xs, rfl, hq, fun hw => ?_, fun hw p hp => k _ _ [] (New.one hp).drop (new_tup hp (cut_rep rs))⟩)
    have e1 : cutT ts lo hi = ts := by
      unfold cutT
      rw [rs.length, hw.1, hw.2, List.drop_zero, Nat.sub_zero, ← rs.length, List.take_length]
    rw [e1] at k
    exact k _ H [] New.refl (.tup hq rs)
  | fro hq rs =>
    cases e
    exact .inl ⟨_, _, rfl, hq.sq, fun p hp => k _ _ [p] (New.one hp) (new_lst hp (cut_rep rs))⟩
  | lst hq rs =>
    cases e
    exact .inl ⟨_, _, rfl, SqL.of hq, fun p hp => k _ _ [p] (New.one hp) (new_lst hp (cut_rep rs))⟩
  | _ => cases e

/-! ### built-in functions -/
def gAbs : List T → Option T
  | [.int i] => some (.int (if i < 0 then -i else i))
  | _ => none
theorem RepA.one {H : Hp} {t : T} {vs : List V} (r : RepA K mg H [t] vs) : ∃ v G, vs = [v] ∧ Rep K mg H t v G := by
  cases r with
  | cons r0 rs => cases rs; exact ⟨_, _, rfl, r0⟩
theorem RepA.two {H : Hp} {t u : T} {vs : List V} (r : RepA K mg H [t, u] vs) : ∃ v w G G', vs = [v, w] ∧ Rep K mg H t v G ∧ Rep K mg H u w G' := by
  cases r with
  | cons r0 rs =>
    obtain ⟨w, G', rfl, r1⟩ := rs.one
    exact ⟨_, _, _, _, rfl, r0, r1⟩
theorem s_abs : RLS K mg (fun xs H Q => ∃ i, xs = [.int i] ∧ Q (.int (if i < 0 then -i else i)) H) gAbs := fun H ts vs t Q r e k => by
  unfold gAbs at e
  split at e <;> cases e
  obtain ⟨v, G, rfl, r0⟩ := r.one
  cases r0
  exact ⟨_, rfl, k _ H [] New.refl (.int _)⟩
def gMax2 : List T → Option T
  | [.int i, .int j] => some (.int (if j > i then j else i))
  | _ => none
def gMin2 : List T → Option T
  | [.int i, .int j] => some (.int (if j < i then j else i))
  | _ => none
theorem s_max2 : RLS K mg (fun xs H Q => ∃ i j, xs = [.int i, .int j] ∧ Q (.int (if j > i then j else i)) H) gMax2 := fun H ts vs t Q r e k => by
  unfold gMax2 at e
  split at e <;> cases e
  obtain ⟨v, w, G, G', rfl, r0, r1⟩ := r.two
  cases r0; cases r1
  exact ⟨_, _, rfl, k _ H [] New.refl (.int _)⟩
theorem s_min2 : RLS K mg (fun xs H Q => ∃ i j, xs = [.int i, .int j] ∧ Q (.int (if j < i then j else i)) H) gMin2 := fun H ts vs t Q r e k => by
  unfold gMin2 at e
  split at e <;> cases e
  obtain ⟨v, w, G, G', rfl, r0, r1⟩ := r.two
  cases r0; cases r1
  exact ⟨_, _, rfl, k _ H [] New.refl (.int _)⟩
def gInt : List T → Option T
  | [.int i] => some (.int i)
  | [.bl b] => some (.int (if b then 1 else 0))
  | _ => none
theorem s_int : RLS K mg (fun xs H Q => (∃ i, xs = [.int i] ∧ Q (.int i) H) ∨ ∃ k, xs = [.bl k] ∧ Q (.int (if k then 1 else 0)) H) gInt := fun H ts vs t Q r e k => by
  unfold gInt at e
  split at e <;> cases e
  · obtain ⟨v, G, rfl, r0⟩ := r.one
    cases r0
    exact .inl ⟨_, rfl, k _ H [] New.refl (.int _)⟩
  · obtain ⟨v, G, rfl, r0⟩ := r.one
    cases r0
    exact .inr ⟨_, rfl, k _ H [] New.refl (.int _)⟩
def gStrI : List T → Option T
  | [.int i] => if i.natAbs.log2 < 1920 then some (.str (toString i)) else none
  | _ => none
theorem s_strI : RLS K mg (fun xs H Q => ∃ i, xs = [.int i] ∧ i.natAbs.log2 < 1920 ∧ Q (.str (toString i)) H) gStrI := fun H ts vs t Q r e k => by
  unfold gStrI at e
  split at e
  · rename_i i
    by_cases h : i.natAbs.log2 < 1920
    · rw [if_pos h] at e
      cases e
      obtain ⟨v, G, rfl, r0⟩ := r.one
      cases r0
      exact ⟨_, rfl, h, k _ H [] New.refl (.str _)⟩
    · rw [if_neg h] at e; cases e
  · cases e
def gLen : List T → Option T
  | [.str z] => if z.length ≤ sizeLine then some (.int z.length) else none
  | [.tup ts] => some (.int ts.length)
  | [.fro ts] => some (.int ts.length)
  | [.scr ts] => some (.int ts.length)
  | [.lst ts] => some (.int ts.length)
  | _ => none
def rLenA (K : PySem.W.Frag) : List V → Hp → VK → Prop := fun xs H Q => (∃ p ys, xs = [.ref p] ∧ (SqL K H p ys ∨ SqT K H p ys) ∧ Q (.int ys.length) H) ∨ ∃ z : Str, xs = [.str z] ∧ z.length ≤ sizeLine ∧ Q (.int z.length) H
theorem call_lenA {X : Cx} : CallR X (.builtin "len") (rLenA X.K) := call_len_seq.or fun pins s σ H xs us Q I r h => by
  obtain ⟨z, rfl, hz, q⟩ := h
  obtain ⟨u, rfl, t, rfl⟩ := vals1 r
  have hn := line63
  exact PyProof.Rows.len_str (by omega) ⟨.int z.length, H, I.tok _, ⟨_, rfl⟩, q⟩
theorem s_len : RLS K mg (rLenA K) gLen := fun H ts vs t Q r e k => by
  unfold gLen at e
  split at e
  · rename_i z
    by_cases h : z.length ≤ sizeLine
    · rw [if_pos h] at e
      cases e
      obtain ⟨v, G, rfl, r0⟩ := r.one
      cases r0
      exact .inr ⟨z, rfl, h, k _ H [] New.refl (.int _)⟩
    · rw [if_neg h] at e; cases e
  · cases e
    obtain ⟨v, G, rfl, r0⟩ := r.one
    cases r0 with
    | tup hq rs => exact .inl ⟨_, _, rfl, .inr hq, k _ H [] New.refl (by rw [rs.length]; exact .int _)⟩
  · cases e
    obtain ⟨v, G, rfl, r0⟩ := r.one
    cases r0 with
    | fro hq rs => exact .inl ⟨_, _, rfl, .inl hq.sq, k _ H [] New.refl (by rw [rs.length]; exact .int _)⟩
  · cases e
    obtain ⟨v, G, rfl, r0⟩ := r.one
    cases r0 with
    | scr hq rs => exact .inl ⟨_, _, rfl, .inl hq.sq, k _ H [] New.refl (by rw [rs.length]; exact .int _)⟩
  · cases e
    obtain ⟨v, G, rfl, r0⟩ := r.one
    cases r0 with
    | lst hq rs => exact .inl ⟨_, _, rfl, .inl (SqL.of hq), k _ H [] New.refl (by rw [rs.length]; exact .int _)⟩
  · cases e
def gListOf : List T → Option T
  | [a] => (itS a).map .lst
  | _ => none
def gTupleOf : List T → Option T
  | [a] => (itS a).map .tup
  | _ => none
theorem s_listOf : RLS K mg (fun xs H Q => ∃ p ys, xs = [.ref p] ∧ (SqL K H p ys ∨ SqT K H p ys) ∧ ∀ l, H l = none → Q (.ref l) (upd H l (.lst ys))) gListOf := fun H ts vs t Q r e k => by
  unfold gListOf at e
  split at e
  · obtain ⟨xs, e1, rfl⟩ := Option.map_eq_some_iff.mp e
    obtain ⟨v, G, rfl, r0⟩ := r.one
    obtain ⟨p, ys, rfl, hq, rs⟩ := itS_rep r0 e1
    exact ⟨p, ys, rfl, hq, fun l hl => k _ _ [l] (New.one hl) (new_lst hl rs)⟩
  · cases e
theorem s_tupleOf : RLS K mg (fun xs H Q => ∃ p ys, xs = [.ref p] ∧ ((SqL K H p ys ∧ ∀ l, H l = none → Q (.ref l) (upd H l (.tup ys))) ∨ (SqT K H p ys ∧ Q (.ref p) H))) gTupleOf := fun H ts vs t Q r e k => by
  unfold gTupleOf at e
  split at e
  · obtain ⟨xs, e1, rfl⟩ := Option.map_eq_some_iff.mp e
    obtain ⟨v, G, rfl, r0⟩ := r.one
    obtain ⟨p, ys, rfl, hq, rs⟩ := itS_rep r0 e1
    rcases hq with hq | hq
    · exact ⟨p, ys, rfl, .inl ⟨hq, fun l hl => k _ _ [] (New.one hl).drop (new_tup hl rs)⟩⟩
    · exact ⟨p, ys, rfl, .inr ⟨hq, k _ H [] New.refl (.tup hq rs)⟩⟩
  · cases e
/-- a list of bools, of ints, of texts -/
def bsOf : List T → Option (List Bool)
  | [] => some []
  | .bl b :: ts => (bsOf ts).map fun bs => b :: bs
  | _ => none
def nsOf : List T → Option (List Int)
  | [] => some []
  | .int b :: ts => (nsOf ts).map fun bs => b :: bs
  | _ => none
def ssOf : List T → Option (List Str)
  | [] => some []
  | .str b :: ts => (ssOf ts).map fun bs => b :: bs
  | _ => none
theorem bsOf_rep {H : Hp} : ∀ {ts : List T} {xs : List V} {bs : List Bool}, Reps K mg H ts xs → bsOf ts = some bs → xs = bs.map V.bl
  | _, _, _, .nil, e => by simp [bsOf] at e; subst e; rfl
  | t :: _, _, _, .cons r rs, e => by
    cases t <;> simp only [bsOf] at e <;> first | cases e | skip
    obtain ⟨bs, e1, e2⟩ := Option.map_eq_some_iff.mp e
    subst e2
    cases r
    rw [List.map_cons, bsOf_rep rs e1]
theorem nsOf_rep {H : Hp} : ∀ {ts : List T} {xs : List V} {bs : List Int}, Reps K mg H ts xs → nsOf ts = some bs → xs = bs.map V.int
  | _, _, _, .nil, e => by simp [nsOf] at e; subst e; rfl
  | t :: _, _, _, .cons r rs, e => by
    cases t <;> simp only [nsOf] at e <;> first | cases e | skip
    obtain ⟨bs, e1, e2⟩ := Option.map_eq_some_iff.mp e
    subst e2
    cases r
    rw [List.map_cons, nsOf_rep rs e1]
theorem ssOf_rep {H : Hp} : ∀ {ts : List T} {xs : List V} {bs : List Str}, Reps K mg H ts xs → ssOf ts = some bs → xs = bs.map V.str
  | _, _, _, .nil, e => by simp [ssOf] at e; subst e; rfl
  | t :: _, _, _, .cons r rs, e => by
    cases t <;> simp only [ssOf] at e <;> first | cases e | skip
    obtain ⟨bs, e1, e2⟩ := Option.map_eq_some_iff.mp e
    subst e2
    cases r
    rw [List.map_cons, ssOf_rep rs e1]
def gAll : List T → Option T
  | [a] => (itL a).bind fun ts => (bsOf ts).map fun bs => .bl (bs.all id)
  | _ => none
def gAny : List T → Option T
  | [a] => (itL a).bind fun ts => (bsOf ts).map fun bs => .bl (bs.any id)
  | _ => none
def gSum : List T → Option T
  | [a] => (itL a).bind fun ts => (nsOf ts).map fun ns => .int ns.sum
  | _ => none
theorem s_all : RLS K mg (rAll K) gAll := fun H ts vs t Q r e k => by
  unfold gAll at e
  split at e
  · obtain ⟨xs, e1, e2⟩ := Option.bind_eq_some_iff.mp e
    obtain ⟨bs, e3, rfl⟩ := Option.map_eq_some_iff.mp e2
    obtain ⟨v, G, rfl, r0⟩ := r.one
    obtain ⟨p, ys, rfl, hq, rs⟩ := itL_rep r0 e1
    exact ⟨p, bs, rfl, by rw [← bsOf_rep rs e3]; exact hq, k _ H [] New.refl (.bl _)⟩
  · cases e
theorem s_any : RLS K mg (rAny K) gAny := fun H ts vs t Q r e k => by
  unfold gAny at e
  split at e
  · obtain ⟨xs, e1, e2⟩ := Option.bind_eq_some_iff.mp e
    obtain ⟨bs, e3, rfl⟩ := Option.map_eq_some_iff.mp e2
    obtain ⟨v, G, rfl, r0⟩ := r.one
    obtain ⟨p, ys, rfl, hq, rs⟩ := itL_rep r0 e1
    exact ⟨p, bs, rfl, by rw [← bsOf_rep rs e3]; exact hq, k _ H [] New.refl (.bl _)⟩
  · cases e
theorem s_sum : RLS K mg (rSum K) gSum := fun H ts vs t Q r e k => by
  unfold gSum at e
  split at e
  · obtain ⟨xs, e1, e2⟩ := Option.bind_eq_some_iff.mp e
    obtain ⟨bs, e3, rfl⟩ := Option.map_eq_some_iff.mp e2
    obtain ⟨v, G, rfl, r0⟩ := r.one
    obtain ⟨p, ys, rfl, hq, rs⟩ := itL_rep r0 e1
    exact ⟨p, bs, rfl, by rw [← nsOf_rep rs e3]; exact hq, k _ H [] New.refl (.int _)⟩
  · cases e
/-! ### methods of texts -/
def gJoin (a : T) (ts : List T) : Option T := match a with
  | .str x => match ts with
    | [l] => (itS l).bind fun us => (ssOf us).bind fun ys => if (ys.map (·.length)).sum + ys.length * x.length ≤ 16777216 then some (.str (Txt.join x ys)) else none
    | _ => none
  | _ => none
theorem s_join : RMS K mg (fun x xs H Q => ∃ a p, ∃ ys : List Str, x = .str a ∧ xs = [.ref p] ∧ (SqL K H p (ys.map V.str) ∨ SqT K H p (ys.map V.str)) ∧ (ys.map (·.length)).sum + ys.length * a.length ≤ 16777216 ∧ Q (.str (Txt.join a ys)) H) gJoin := fun H a x Ga ts vs t Q ra r e k => by
  cases ra with
  | str x =>
    simp only [gJoin] at e
    split at e
    · obtain ⟨us, e1, e2⟩ := Option.bind_eq_some_iff.mp e
      obtain ⟨ys, e3, e4⟩ := Option.bind_eq_some_iff.mp e2
      obtain ⟨v, G, rfl, r0⟩ := r.one
      obtain ⟨p, xs, rfl, hq, rs⟩ := itS_rep r0 e1
      split at e4
      · rename_i hz
        cases e4
        exact ⟨_, p, ys, rfl, rfl, by rw [← ssOf_rep rs e3]; exact hq, hz, k _ H [] New.refl (.str _)⟩
      · cases e4
    · cases e
  | _ => cases e
def gSplit (a : T) (ts : List T) : Option T := match a with
  | .str x => match ts with
    | [.str b] => if (b.length == 0) = false ∧ x.length + 2 ≤ sizeLine then some (.lst ((Txt.split x b).map .str)) else none
    | _ => none
  | _ => none
theorem reps_strs {H : Hp} : ∀ ys : List Str, Reps K mg H (ys.map .str) (ys.map V.str)
  | [] => .nil
  | y :: ys => .cons (.str y) (reps_strs ys)
theorem s_split : RMS K mg (fun x xs H Q => ∃ a b, x = .str a ∧ xs = [.str b] ∧ (b.length == 0) = false ∧ a.length + 2 ≤ sizeLine ∧ rNewStrs (Txt.split a b) H Q) gSplit := fun H a x Ga ts vs t Q ra r e k => by
  cases ra with
  | str x =>
    simp only [gSplit] at e
    split at e
    · obtain ⟨v, G, rfl, r0⟩ := r.one
      cases r0
      split at e
      · rename_i hz
        cases e
        exact ⟨_, _, rfl, rfl, hz.1, hz.2, fun p hp => k _ _ [p] (New.one hp) (new_lst hp (reps_strs _))⟩
      · cases e
    · cases e
  | _ => cases e
/-! ### methods of lists -/
def gAppend (ts as : List T) : Option (T × List T) := match as with
  | [a] => if ts.length < sizeLine then some (.non, ts ++ [a]) else none
  | _ => none
theorem s_append : RUS K mg rAppend gAppend := fun H l xs ts as ts' vs t Q hl rs ra e hp hq k => by
  unfold gAppend at e
  split at e
  · rename_i a
    split at e
    · rename_i hz
      cases e
      obtain ⟨v, G, rfl, r0⟩ := ra.one
      rw [List.all_append, Bool.and_eq_true] at hq
      have pa : pureT a = true := by simpa using hq.2
      have eG := r0.pure0 pa
      subst eG
      exact ⟨l, xs, v, rfl, rfl, hl, by rw [← rs.length]; exact hz, k .non _ (rs.append (.cons r0 .nil)) .non⟩
    · cases e
  · cases e
def gPop (ts as : List T) : Option (T × List T) := match as with
  | [] => ts[ts.length - 1]?.map fun t => (t, ts.dropLast)
  | _ => none
theorem Reps.dropLast {H : Hp} : ∀ {ts : List T} {vs : List V}, Reps K mg H ts vs → Reps K mg H ts.dropLast vs.dropLast := fun {ts vs} r => by
  rw [List.dropLast_eq_take, List.dropLast_eq_take, r.length]
  exact r.take _
theorem s_pop : RUS K mg rPop gPop := fun H l xs ts as ts' vs t Q hl rs ra e hp hq k => by
  unfold gPop at e
  split at e
  · obtain ⟨t0, e1, e2⟩ := Option.map_eq_some_iff.mp e
    cases e2
    cases ra
    obtain ⟨v, h1, h2⟩ := rs.get e1
    exact ⟨l, xs, v, rfl, rfl, hl, by rw [← rs.length]; exact h1, k v _ rs.dropLast h2⟩
  · cases e
end
end FL
/-! FL9: isinstance -/
namespace FL
open PySem PySem.Spec L2
/-- the name of a tree's type, where it is a built-in one -/
def tyN : T → Option String
  | .non => some "NoneType" | .bl _ => some "bool" | .int _ => some "int" | .str _ => some "str" | .tup _ => some "tuple" | .fro _ => some "list" | .scr _ => some "list" | .lst _ => some "list"
  | .dK _ => some "dict" | .dT _ => some "dict" | _ => none
section
variable {K : PySem.W.Frag} {mg : Str → Option Value}
theorem tyN_rep {H : Hp} {t : T} {v : V} {G : List Addr} {s : String} (r : Rep K mg H t v G) (e : tyN t = some s) : TyX K H v (.type s) := by
  cases r with
  | non => cases e; exact .base .non
  | bl b => cases e; exact .base (.bl b)
  | int b => cases e; exact .base (.int b)
  | str b => cases e; exact .base (.str b)
  | tup h _ =>
    cases e
    rcases h with (h | ⟨o, h⟩) | ⟨o, its, n, h, c, _⟩
    · exact .base (.tup h)
    · exact .fTuple h
    · exact .kTuple h c
  | fro h _ => cases e; obtain ⟨o, h⟩ := h; exact .base (.frz h)
  | scr h _ => cases e; obtain ⟨o, its, n, h, c, _⟩ := h; exact .kList h c
  | lst h _ => cases e; exact .base (.lst h)
  | dK h _ => cases e; exact .base (.dK h)
  | dT h _ => cases e; exact .base (.dT h)
  | ins _ _ _ => cases e
/-- the table of one class: which built-in types are of it -/
structure IsTab (n : String) (f : String → Bool) : Prop where
  tab : ∀ s ∈ ["NoneType", "bool", "int", "str", "tuple", "list", "dict"], kitB s n = some (f s)
def gIs (f : String → Bool) (t : T) : Option T := (tyN t).map fun s => .bl (f s)
theorem tyN_mem {t : T} {s : String} (e : tyN t = some s) : s ∈ ["NoneType", "bool", "int", "str", "tuple", "list", "dict"] := by
  cases t <;> cases e <;> decide
theorem s_is {n : String} {f : String → Bool} (h : IsTab n f) : R1S K mg (fun x H Q => rIsi K [x, .ty n] H Q) (gIs f) := fun H a x Ga t Q ra e k => by
  unfold gIs at e
  obtain ⟨s, e1, rfl⟩ := Option.map_eq_some_iff.mp e
  exact ⟨x, .ty n, .type s, .type n, f s, rfl, .ty n, tyN_rep ra e1, kit_ty (h.tab s (tyN_mem e1)), k _ H [] New.refl (.bl _)⟩
variable {X : Cx} {W : WX} {e : Expr} {x c : Str} {p pos pc : Pos} {o : M Hd} {n : String} {f : String → Bool}
theorem fe_is (h : IsTab n f) (hg : Gl X "isinstance") (hm : X.mg "isinstance" = none) (hgc : Gl X c) (hmc : X.mg c = none) (hvc : bootBuiltins c = some (.type n)) (ho : FO X W e o)
    (hn : c ≠ "__name__" := by decide) (hd : (c == ("__debug__" : Str)) = false := by decide)
    (he : starEach [e, .Name c pc] X.env = (false, eval e X.env) :: starEach [.Name c pc] X.env := by rfl) (he2 : starEach [.Name c pc] X.env = (false, eval (.Name c pc) X.env) :: starEach [] X.env := by rfl)
    (hpl : (backTo pos (starEach [.Name c pc] X.env)).any (·.1) = false := by rfl) : FE X W (.Call (.Name "isinstance" p) [e, .Name c pc] [] pos) (fOp1 (gIs f) o) :=
  PE.imp (pe_callB call_isi hg hm (by decide +kernel) (pa_cons ho (pa_cons (pe_bltn (v := .ty n) hgc hmc hvc rfl hn hd) pa_nil he2) he) (by decide) (by decide) he hpl) fun σ H Q q => RD.op1 (W := W) (r := fun x H Q => rIsi X.K [x, .ty n] H Q) (s_is h) q
def isTuple (s : String) : Bool := s == "tuple"
def isStr (s : String) : Bool := s == "str"
def isInt (s : String) : Bool := s == "int" || s == "bool"
def isBool (s : String) : Bool := s == "bool"
def isList (s : String) : Bool := s == "list"
theorem tab_tuple : IsTab "tuple" isTuple := ⟨by decide +kernel⟩
theorem tab_str : IsTab "str" isStr := ⟨by decide +kernel⟩
theorem tab_int : IsTab "int" isInt := ⟨by decide +kernel⟩
theorem tab_bool : IsTab "bool" isBool := ⟨by decide +kernel⟩
theorem tab_list : IsTab "list" isList := ⟨by decide +kernel⟩
end
end FL
namespace FL
open PySem PySem.Spec L2
def prS (l : List Nat) : Nat → Bool := fun i => l.contains i
theorem b_len : bootBuiltins "len" = some (.builtin "len") := by decide +kernel
theorem b_abs : bootBuiltins "abs" = some (.builtin "abs") := by decide +kernel
theorem b_max : bootBuiltins "max" = some (.builtin "max") := by decide +kernel
theorem b_min : bootBuiltins "min" = some (.builtin "min") := by decide +kernel
theorem b_sum : bootBuiltins "sum" = some (.builtin "sum") := by decide +kernel
theorem b_all : bootBuiltins "all" = some (.builtin "all") := by decide +kernel
theorem b_any : bootBuiltins "any" = some (.builtin "any") := by decide +kernel
theorem b_int : bootBuiltins "int" = some (.type "int") := by decide +kernel
theorem b_str : bootBuiltins "str" = some (.type "str") := by decide +kernel
theorem b_bool : bootBuiltins "bool" = some (.type "bool") := by decide +kernel
theorem b_tuple : bootBuiltins "tuple" = some (.type "tuple") := by decide +kernel
theorem b_list : bootBuiltins "list" = some (.type "list") := by decide +kernel
end FL
namespace FL
open PySem PySem.Spec L2
/-! ### the text of mustersums_k01_tokens_split -/
def topS (i : Nat) : Stmt := PySem.Challenge.pw_mustersums_k01_tokens_split.main.body.getD i (.Pass ⟨0, 0, 0, 0⟩)
abbrev s_runs_on : Stmt := topS 4
abbrev N_runs_on : List Str := ["sign"]
theorem sc_runs_on : FnScope N_runs_on ["sign"] (defScope s_runs_on) := ⟨rfl, rfl, rfl, by decide +kernel, rfl, by decide +kernel, by decide +kernel⟩
abbrev s_end_of_run : Stmt := topS 5
abbrev N_end_of_run : List Str := ["text", "at", "place"]
theorem sc_end_of_run : FnScope N_end_of_run ["text", "at"] (defScope s_end_of_run) := ⟨rfl, rfl, rfl, by decide +kernel, rfl, by decide +kernel, by decide +kernel⟩
abbrev s_task_tokens : Stmt := topS 6
abbrev N_task_tokens : List Str := ["text", "found", "at", "sign", "behind"]
theorem sc_task_tokens : FnScope N_task_tokens ["text"] (defScope s_task_tokens) := ⟨rfl, rfl, rfl, by decide +kernel, rfl, by decide +kernel, by decide +kernel⟩
abbrev s_is_apart : Stmt := topS 7
abbrev N_is_apart : List Str := ["sign"]
theorem sc_is_apart : FnScope N_is_apart ["sign"] (defScope s_is_apart) := ⟨rfl, rfl, rfl, by decide +kernel, rfl, by decide +kernel, by decide +kernel⟩
abbrev s_paper_tokens : Stmt := topS 8
abbrev N_paper_tokens : List Str := ["text", "found", "at", "sign", "behind"]
theorem sc_paper_tokens : FnScope N_paper_tokens ["text"] (defScope s_paper_tokens) := ⟨rfl, rfl, rfl, by decide +kernel, rfl, by decide +kernel, by decide +kernel⟩
abbrev s__law_begin : Stmt := topS 10
abbrev N__law_begin : List Str := ["script", "cell"]
theorem sc__law_begin : FnScope N__law_begin ["script"] (defScope s__law_begin) := ⟨rfl, rfl, rfl, by decide +kernel, rfl, by decide +kernel, by decide +kernel⟩
abbrev s__law_draw : Stmt := topS 11
abbrev N__law_draw : List Str := ["d", "many", "whole", "size", "cell"]
theorem sc__law_draw : FnScope N__law_draw ["d", "many"] (defScope s__law_draw) := ⟨rfl, rfl, rfl, by decide +kernel, rfl, by decide +kernel, by decide +kernel⟩
abbrev s__law_pick : Stmt := topS 12
abbrev N__law_pick : List Str := ["d", "row"]
theorem sc__law_pick : FnScope N__law_pick ["d", "row"] (defScope s__law_pick) := ⟨rfl, rfl, rfl, by decide +kernel, rfl, by decide +kernel, by decide +kernel⟩
abbrev s__law_pool : Stmt := topS 13
abbrev N__law_pool : List Str := ["text"]
theorem sc__law_pool : FnScope N__law_pool [] (defScope s__law_pool) := ⟨rfl, rfl, rfl, by decide +kernel, rfl, by decide +kernel, by decide +kernel⟩
abbrev s__law_all_signs : Stmt := topS 14
abbrev N__law_all_signs : List Str := ["signs"]
theorem sc__law_all_signs : FnScope N__law_all_signs [] (defScope s__law_all_signs) := ⟨rfl, rfl, rfl, by decide +kernel, rfl, by decide +kernel, by decide +kernel⟩
abbrev s__law_run_signs : Stmt := topS 15
abbrev N__law_run_signs : List Str := []
theorem sc__law_run_signs : FnScope N__law_run_signs [] (defScope s__law_run_signs) := ⟨rfl, rfl, rfl, by decide +kernel, rfl, by decide +kernel, by decide +kernel⟩
abbrev s__law_sticks : Stmt := topS 16
abbrev N__law_sticks : List Str := ["one", "other", "is_paper"]
theorem sc__law_sticks : FnScope N__law_sticks ["one", "other", "is_paper"] (defScope s__law_sticks) := ⟨rfl, rfl, rfl, by decide +kernel, rfl, by decide +kernel, by decide +kernel⟩
abbrev s__law_own_tokens : Stmt := topS 17
abbrev N__law_own_tokens : List Str := ["text", "is_paper", "tokens", "at", "sign", "last"]
theorem sc__law_own_tokens : FnScope N__law_own_tokens ["text", "is_paper"] (defScope s__law_own_tokens) := ⟨rfl, rfl, rfl, by decide +kernel, rfl, by decide +kernel, by decide +kernel⟩
abbrev s__law_split_right : Stmt := topS 18
abbrev N__law_split_right : List Str := ["text", "is_paper", "due", "told", "token"]
theorem sc__law_split_right : FnScope N__law_split_right ["text"] (defScope s__law_split_right) := ⟨rfl, rfl, rfl, by decide +kernel, rfl, by decide +kernel, by decide +kernel⟩
abbrev s__law_wide_gap : Stmt := topS 19
abbrev N__law_wide_gap : List Str := ["d"]
theorem sc__law_wide_gap : FnScope N__law_wide_gap ["d"] (defScope s__law_wide_gap) := ⟨rfl, rfl, rfl, by decide +kernel, rfl, by decide +kernel, by decide +kernel⟩
abbrev s__law_gap : Stmt := topS 20
abbrev N__law_gap : List Str := ["d"]
theorem sc__law_gap : FnScope N__law_gap ["d"] (defScope s__law_gap) := ⟨rfl, rfl, rfl, by decide +kernel, rfl, by decide +kernel, by decide +kernel⟩
abbrev s__law_run_text : Stmt := topS 21
abbrev N__law_run_text : List Str := ["d", "many", "base", "at"]
theorem sc__law_run_text : FnScope N__law_run_text ["d"] (defScope s__law_run_text) := ⟨rfl, rfl, rfl, by decide +kernel, rfl, by decide +kernel, by decide +kernel⟩
abbrev s__law_piece : Stmt := topS 22
abbrev N__law_piece : List Str := ["d", "way"]
theorem sc__law_piece : FnScope N__law_piece ["d"] (defScope s__law_piece) := ⟨rfl, rfl, rfl, by decide +kernel, rfl, by decide +kernel, by decide +kernel⟩
abbrev s__law_some_text : Stmt := topS 23
abbrev N__law_some_text : List Str := ["d", "way", "signs", "row", "text", "at", "base"]
theorem sc__law_some_text : FnScope N__law_some_text ["d"] (defScope s__law_some_text) := ⟨rfl, rfl, rfl, by decide +kernel, rfl, by decide +kernel, by decide +kernel⟩
abbrev s__law_spread : Stmt := topS 24
abbrev N__law_spread : List Str := ["d", "tokens", "text", "token"]
theorem sc__law_spread : FnScope N__law_spread ["d", "tokens"] (defScope s__law_spread) := ⟨rfl, rfl, rfl, by decide +kernel, rfl, by decide +kernel, by decide +kernel⟩
abbrev s_law : Stmt := topS 25
abbrev N_law : List Str := ["script", "d", "text", "other", "texts", "is_paper", "tokens", "one"]
theorem sc_law : FnScope N_law ["script"] (defScope s_law) := ⟨rfl, rfl, rfl, by decide +kernel, rfl, by decide +kernel, by decide +kernel⟩
/-- what the top has written -/
structure Top (K : PySem.W.Frag) (mg : Str → Option Value) : Prop where
  f_runs_on : ∃ f fd, mg "runs_on" = some (.ref f) ∧ Fun K "runs_on" "runs_on" s_runs_on f fd ∧ Binds K fd ["sign"] []
  f_end_of_run : ∃ f fd, mg "end_of_run" = some (.ref f) ∧ Fun K "end_of_run" "end_of_run" s_end_of_run f fd ∧ Binds K fd ["text", "at"] []
  f_task_tokens : ∃ f fd, mg "task_tokens" = some (.ref f) ∧ Fun K "task_tokens" "task_tokens" s_task_tokens f fd ∧ Binds K fd ["text"] []
  f_is_apart : ∃ f fd, mg "is_apart" = some (.ref f) ∧ Fun K "is_apart" "is_apart" s_is_apart f fd ∧ Binds K fd ["sign"] []
  f_paper_tokens : ∃ f fd, mg "paper_tokens" = some (.ref f) ∧ Fun K "paper_tokens" "paper_tokens" s_paper_tokens f fd ∧ Binds K fd ["text"] []
  f__law_begin : ∃ f fd, mg "_law_begin" = some (.ref f) ∧ Fun K "_law_begin" "_law_begin" s__law_begin f fd ∧ Binds K fd ["script"] []
  f__law_draw : ∃ f fd, mg "_law_draw" = some (.ref f) ∧ Fun K "_law_draw" "_law_draw" s__law_draw f fd ∧ Binds K fd ["d", "many"] []
  f__law_pick : ∃ f fd, mg "_law_pick" = some (.ref f) ∧ Fun K "_law_pick" "_law_pick" s__law_pick f fd ∧ Binds K fd ["d", "row"] []
  f__law_pool : ∃ f fd, mg "_law_pool" = some (.ref f) ∧ Fun K "_law_pool" "_law_pool" s__law_pool f fd ∧ Binds K fd [] []
  f__law_all_signs : ∃ f fd, mg "_law_all_signs" = some (.ref f) ∧ Fun K "_law_all_signs" "_law_all_signs" s__law_all_signs f fd ∧ Binds K fd [] []
  f__law_run_signs : ∃ f fd, mg "_law_run_signs" = some (.ref f) ∧ Fun K "_law_run_signs" "_law_run_signs" s__law_run_signs f fd ∧ Binds K fd [] []
  f__law_sticks : ∃ f fd, mg "_law_sticks" = some (.ref f) ∧ Fun K "_law_sticks" "_law_sticks" s__law_sticks f fd ∧ Binds K fd ["one", "other", "is_paper"] []
  f__law_own_tokens : ∃ f fd, mg "_law_own_tokens" = some (.ref f) ∧ Fun K "_law_own_tokens" "_law_own_tokens" s__law_own_tokens f fd ∧ Binds K fd ["text", "is_paper"] []
  f__law_split_right : ∃ f fd, mg "_law_split_right" = some (.ref f) ∧ Fun K "_law_split_right" "_law_split_right" s__law_split_right f fd ∧ Binds K fd ["text"] []
  f__law_wide_gap : ∃ f fd, mg "_law_wide_gap" = some (.ref f) ∧ Fun K "_law_wide_gap" "_law_wide_gap" s__law_wide_gap f fd ∧ Binds K fd ["d"] []
  f__law_gap : ∃ f fd, mg "_law_gap" = some (.ref f) ∧ Fun K "_law_gap" "_law_gap" s__law_gap f fd ∧ Binds K fd ["d"] []
  f__law_run_text : ∃ f fd, mg "_law_run_text" = some (.ref f) ∧ Fun K "_law_run_text" "_law_run_text" s__law_run_text f fd ∧ Binds K fd ["d"] []
  f__law_piece : ∃ f fd, mg "_law_piece" = some (.ref f) ∧ Fun K "_law_piece" "_law_piece" s__law_piece f fd ∧ Binds K fd ["d"] []
  f__law_some_text : ∃ f fd, mg "_law_some_text" = some (.ref f) ∧ Fun K "_law_some_text" "_law_some_text" s__law_some_text f fd ∧ Binds K fd ["d"] []
  f__law_spread : ∃ f fd, mg "_law_spread" = some (.ref f) ∧ Fun K "_law_spread" "_law_spread" s__law_spread f fd ∧ Binds K fd ["d", "tokens"] []
  f_law : ∃ f fd, mg "law" = some (.ref f) ∧ Fun K "law" "law" s_law f fd ∧ Binds K fd ["script"] []
  c_CAPITALS : ∃ u, mg "CAPITALS" = some u ∧ RelV (.str "ABCDEFGHIJKLMNOPQRSTUVWXYZ") u
  c_FIGURES : ∃ u, mg "FIGURES" = some u ∧ RelV (.str "0123456789") u
  c_LETTERS : ∃ u, mg "LETTERS" = some u ∧ RelV (.str "abcdefghijklmnopqrstuvwxyz") u
  n_abs : mg "abs" = none
  n_all : mg "all" = none
  n_int : mg "int" = none
  n_isinstance : mg "isinstance" = none
  n_len : mg "len" = none
  n_list : mg "list" = none
  n_min : mg "min" = none
  n_range : mg "range" = none
  n_str : mg "str" = none
  n_tuple : mg "tuple" = none
/-! ### the programs over trees -/
def m_runs_on : M T := fBody 1 1 (prS [0])
    (sRet (vOr (fOp2 gIn (oVar 0) (oTm (fC (.str "abcdefghijklmnopqrstuvwxyz")))) (vOr (fOp2 gIn (oVar 0) (oTm (fC (.str "ABCDEFGHIJKLMNOPQRSTUVWXYZ")))) (fOp2 gIn (oVar 0) (oTm (fC (.str "0123456789")))))))
def wc_end_of_run_1 : M Bool := (mAnd (fTest (fOp2 gLt (oVar 2) (oTm (fCall gLen (aCons (oVar 0) aNil))))) (fTest (fDef m_runs_on (aCons (oTm (fOp2 gIx (oVar 0) (oVar 2))) aNil))))
def wb_end_of_run_1 : M Fl := (sAug 2 gIadd (oTm (fC (.int 1))))
def m_end_of_run : M T := fBody 2 3 (prS [0, 1])
    (fSeq (sSet 2 (fOf (oVar 1)))
    (fSeq (sWhile wc_end_of_run_1
    wb_end_of_run_1)
    (sRet (fOf (oVar 2)))))
def wc_task_tokens_1 : M Bool := (fTest (fOp2 gLt (oVar 2) (oTm (fCall gLen (aCons (oVar 0) aNil)))))
def wb_task_tokens_1 : M Fl := (fSeq (sSet 3 (fOp2 gIx (oVar 0) (oVar 2)))
    (mIf (mOr (fTest (fOp2 gEq (oVar 3) (oTm (fC (.str " "))))) (fTest (fOp2 gEq (oVar 3) (oTm (fC (.str "\n"))))))
    (sAug 2 gIadd (oTm (fC (.int 1))))
    (mIf (fTest (fDef m_runs_on (aCons (oVar 3) aNil)))
    (fSeq (sSet 4 (fDef m_end_of_run (aCons (oVar 0) (aCons (oVar 2) aNil))))
    (fSeq (sDrop (fMut 1 gAppend (aCons (oTm (fFrz (fSl gSl (oVar 0) (pSo (oVar 2)) (pSo (oVar 4))))) aNil)))
    (sSet 2 (fOf (oVar 4)))))
    (mIf (fTest (fOp2 gEq (oTm (fSl gSl (oVar 0) (pSo (oVar 2)) (pSo (oTm (fOp2 gAdd (oVar 2) (oTm (fC (.int 2)))))))) (oTm (fC (.str "->")))))
    (fSeq (sDrop (fMut 1 gAppend (aCons (oTm (fC (.str "->"))) aNil)))
    (sAug 2 gIadd (oTm (fC (.int 2)))))
    (fSeq (sDrop (fMut 1 gAppend (aCons (oTm (fFrz (fOf (oVar 3)))) aNil)))
    (sAug 2 gIadd (oTm (fC (.int 1)))))))))
def m_task_tokens : M T := fBody 1 5 (prS [0])
    (fSeq (sSet 1 (fCall gLstD aNil))
    (fSeq (sSet 2 (fC (.int 0)))
    (fSeq (sWhile wc_task_tokens_1
    wb_task_tokens_1)
    (sRet (fCall gTupleOf (aCons (oVar 1) aNil))))))
def m_is_apart : M T := fBody 1 1 (prS [0])
    (sRet (vOr (fOp2 gEq (oVar 0) (oTm (fC (.str " ")))) (vOr (fOp2 gEq (oVar 0) (oTm (fC (.str "\n")))) (vOr (fOp2 gEq (oVar 0) (oTm (fC (.str "(")))) (fOp2 gEq (oVar 0) (oTm (fC (.str ")"))))))))
def wc_paper_tokens_1 : M Bool := (mAnd (fTest (fOp2 gLt (oVar 4) (oTm (fCall gLen (aCons (oVar 0) aNil))))) (mNot (fTest (fDef m_is_apart (aCons (oTm (fOp2 gIx (oVar 0) (oVar 4))) aNil)))))
def wb_paper_tokens_1 : M Fl := (sAug 4 gIadd (oTm (fC (.int 1))))
def wc_paper_tokens_2 : M Bool := (fTest (fOp2 gLt (oVar 2) (oTm (fCall gLen (aCons (oVar 0) aNil)))))
def wb_paper_tokens_2 : M Fl := (fSeq (sSet 3 (fOp2 gIx (oVar 0) (oVar 2)))
    (mIf (mOr (fTest (fOp2 gEq (oVar 3) (oTm (fC (.str " "))))) (fTest (fOp2 gEq (oVar 3) (oTm (fC (.str "\n"))))))
    (sAug 2 gIadd (oTm (fC (.int 1))))
    (mIf (mOr (fTest (fOp2 gEq (oVar 3) (oTm (fC (.str "("))))) (fTest (fOp2 gEq (oVar 3) (oTm (fC (.str ")"))))))
    (fSeq (sDrop (fMut 1 gAppend (aCons (oTm (fFrz (fOf (oVar 3)))) aNil)))
    (sAug 2 gIadd (oTm (fC (.int 1)))))
    (fSeq (sSet 4 (fOf (oVar 2)))
    (fSeq (sWhile wc_paper_tokens_1
    wb_paper_tokens_1)
    (fSeq (sDrop (fMut 1 gAppend (aCons (oTm (fFrz (fSl gSl (oVar 0) (pSo (oVar 2)) (pSo (oVar 4))))) aNil)))
    (sSet 2 (fOf (oVar 4)))))))))
def m_paper_tokens : M T := fBody 1 5 (prS [0])
    (fSeq (sSet 1 (fCall gLstD aNil))
    (fSeq (sSet 2 (fC (.int 0)))
    (fSeq (sWhile wc_paper_tokens_2
    wb_paper_tokens_2)
    (sRet (fCall gTupleOf (aCons (oVar 1) aNil))))))
def ce__law_begin_1 : M T := (fCall gInt (aCons (oVar 1) aNil))
def m__law_begin : M T := fBody 1 2 (prS [0])
    (sRet (fCall gLstD (aCons (oTm (fFrz (fComp [1] (srcSeq [0] (oVar 0)) (gSet 1) (M.pure true) ce__law_begin_1))) (aCons (oTm (fC (.int 0))) (aCons (oTm (fC (.int 0))) (aCons (oTm (fC (.int 7))) (aCons (oTm (fC (.int 3))) aNil)))))))
def m__law_draw : M T := fBody 2 5 (prS [0, 1])
    (fSeq (mIf (fTest (fOp2 gGt (oTm (fOp2 gIx (oVar 0) (oTm (fC (.int 2))))) (oTm (fC (.int 0)))))
    (fSeq (sSet 2 (fOp2 gIx (oVar 0) (oTm (fC (.int 2)))))
    (fSeq (sSetI 0 (oTm (fC (.int 2))) (fOp2 gFdiv (oVar 2) (oVar 1)))
    (sRet (fOp2 gMod (oTm (fCall gInt (aCons (oVar 2) aNil))) (oVar 1)))))
    sNx)
    (fSeq (sSet 3 (fC (.int 0)))
    (fSeq (mIf (fTest (fOp2 gLt (oTm (fOp2 gIx (oVar 0) (oTm (fC (.int 1))))) (oTm (fCall gLen (aCons (oTm (fOp2 gIx (oVar 0) (oTm (fC (.int 0))))) aNil)))))
    (fSeq (sSet 4 (fOp2 gIx (oTm (fOp2 gIx (oVar 0) (oTm (fC (.int 0))))) (oTm (fOp2 gIx (oVar 0) (oTm (fC (.int 1)))))))
    (sSet 3 (fOp2 gAdd (oTm (fOp2 gMulI (oTm (fC (.int 2))) (oTm (fCall gAbs (aCons (oVar 4) aNil))))) (oTm (fCall gInt (aCons (oTm (fOp2 gLt (oVar 4) (oTm (fC (.int 0))))) aNil))))))
    sNx)
    (fSeq (sAugI 0 gIadd (oTm (fC (.int 1))) (oTm (fC (.int 1))))
    (fSeq (mIf (fTest (fOp2 gGe (oVar 3) (oTm (fOp2 gMulI (oTm (fC (.int 2))) (oTm (fOp2 gPow (oTm (fC (.int 10))) (oTm (fC (.int 18)))))))))
    (fSeq (sSet 2 (fOp2 gMod (oTm (fCall gInt (aCons (oTm (fOp2 gFdiv (oVar 3) (oTm (fC (.int 2))))) aNil))) (oTm (fOp2 gShl (oTm (fC (.int 1))) (oTm (fC (.int 6000)))))))
    (fSeq (sSetI 0 (oTm (fC (.int 2))) (fOp2 gFdiv (oVar 2) (oVar 1)))
    (sRet (fOp2 gMod (oTm (fCall gInt (aCons (oVar 2) aNil))) (oVar 1)))))
    sNx)
    (fSeq (sSetI 0 (oTm (fC (.int 3))) (fOp2 gMod (oTm (fCall gInt (aCons (oTm (fOp2 gAdd (oTm (fOp2 gAdd (oTm (fOp2 gAdd (oTm (fOp2 gMulI (oTm (fOp2 gIx (oVar 0) (oTm (fC (.int 3))))) (oTm (fC (.int 48271))))) (oTm (fOp2 gMulI (oTm (fOp2 gMod (oTm (fCall gInt (aCons (oVar 3) aNil))) (oTm (fC (.int 2147483629))))) (oTm (fC (.int 16807))))))) (oTm (fOp2 gMulI (oTm (fOp2 gIx (oVar 0) (oTm (fC (.int 1))))) (oTm (fC (.int 69621))))))) (oTm (fC (.int 11))))) aNil))) (oTm (fC (.int 2147483647)))))
    (sRet (fOp2 gMod (oTm (fCall gInt (aCons (oTm (fOp2 gFdiv (oTm (fOp2 gIx (oVar 0) (oTm (fC (.int 3))))) (oTm (fC (.int 16))))) aNil))) (oVar 1)))))))))
def m__law_pick : M T := fBody 2 2 (prS [0, 1])
    (sRet (fOp2 gIx (oVar 1) (oTm (fDef m__law_draw (aCons (oVar 0) (aCons (oTm (fCall gLen (aCons (oVar 1) aNil))) aNil))))))
def m__law_pool : M T := fBody 0 1 (prS [])
    (fSeq (sSet 0 (fC (.str "a b2 sum left r k0 carry z9z full tail n m8 aa busy cnt p t4 even2 ab1 head u v2 w lowest high mid ")))
    (fSeq (sSet 0 (fOp2 gAdd (oVar 0) (oTm (fC (.str "s t e f g h i j k x y q7 deep turn gate l5 hold next1 o c0 d two zz1 near far9 last ring2 ")))))
    (sRet (fMt gSplit (oStr (oTm (fOp2 gAdd (oVar 0) (oTm (fC (.str "aaaaaa8 b c1 top2 net3 row col7 v")))))) (aCons (oTm (fC (.str " "))) aNil)))))
def m__law_all_signs : M T := fBody 0 1 (prS [])
    (fSeq (sSet 0 (fC (.str " !\"#$&'()*+,-./0123456789:;<=>?@ABCDEFGHIJKLMNOPQRSTUVWXYZ[\\]^_`")))
    (sRet (fOp2 gAdd (oVar 0) (oTm (fC (.str "abcdefghijklmnopqrstuvwxyz{|}~\n"))))))
def m__law_run_signs : M T := fBody 0 0 (prS [])
    (sRet (fC (.str "abcdefghijklmnopqrstuvwxyzABCDEFGHIJKLMNOPQRSTUVWXYZ0123456789")))
def m__law_sticks : M T := fBody 3 3 (prS [0, 1, 2])
    (fSeq (mIf (fTest (fOf (oVar 2)))
    (sRet (vAnd (fOp2 gNotIn (oVar 0) (oTm (fC (.str " \n()")))) (fOp2 gNotIn (oVar 1) (oTm (fC (.str " \n()"))))))
    sNx)
    (fSeq (mIf (fTest (fOp2 gIn (oVar 0) (oTm (fDef m__law_run_signs aNil))))
    (sRet (fOp2 gIn (oVar 1) (oTm (fDef m__law_run_signs aNil))))
    sNx)
    (sRet (vAnd (fOp2 gEq (oVar 0) (oTm (fC (.str "-")))) (fOp2 gEq (oVar 1) (oTm (fC (.str ">"))))))))
def fb__law_own_tokens_1 : M Fl := (fSeq (sSet 4 (fOp2 gIx (oVar 0) (oVar 3)))
    (fSeq (mIf (mOr (fTest (fOp2 gEq (oVar 4) (oTm (fC (.str " "))))) (fTest (fOp2 gEq (oVar 4) (oTm (fC (.str "\n"))))))
    (M.pure .ct)
    sNx)
    (mIf (mAnd (fTest (fOp2 gGt (oVar 3) (oTm (fC (.int 0))))) (fTest (fDef m__law_sticks (aCons (oTm (fOp2 gIx (oVar 0) (oTm (fOp2 gSub (oVar 3) (oTm (fC (.int 1))))))) (aCons (oVar 4) (aCons (oVar 1) aNil))))))
    (fSeq (sSet 5 (fOp2 gSub (oTm (fCall gLen (aCons (oVar 2) aNil))) (oTm (fC (.int 1)))))
    (sSetI 2 (oVar 5) (fFrz (fOp2 gAdd (oTm (fOp2 gIx (oVar 2) (oVar 5))) (oVar 4)))))
    (sDrop (fMut 2 gAppend (aCons (oTm (fFrz (fOf (oVar 4)))) aNil))))))
def m__law_own_tokens : M T := fBody 2 6 (prS [0, 1])
    (fSeq (sSet 2 (fCall gLstD aNil))
    (fSeq (sFor (srcRange1 (aCons (oTm (fCall gLen (aCons (oVar 0) aNil))) aNil)) (gSet 3)
    fb__law_own_tokens_1)
    (sRet (fOf (oVar 2)))))
def ce__law_split_right_1 : M T := (fOp1 (gIs isStr) (oVar 4))
def fb__law_split_right_1 : M Fl := (fSeq (sSet 2 (fDef m__law_own_tokens (aCons (oVar 0) (aCons (oVar 1) aNil))))
    (fSeq (mIf (fTest (fOf (oVar 1)))
    (sSet 3 (fDef m_paper_tokens (aCons (oVar 0) aNil)))
    (sSet 3 (fDef m_task_tokens (aCons (oVar 0) aNil))))
    (fSeq (mIf (mOr (mNot (fTest (fOp1 (gIs isTuple) (oVar 3)))) (mNot (fTest (fCall gAll (aCons (oTm (fComp [4] (srcSeq [3] (oVar 3)) (gSet 4) (M.pure true) ce__law_split_right_1)) aNil)))))
    (sRet (fC (.bl false)))
    sNx)
    (mIf (fTest (fOp2 gNe (oTm (fCall gListOf (aCons (oVar 3) aNil))) (oVar 2)))
    (sRet (fC (.bl false)))
    sNx))))
def m__law_split_right : M T := fBody 1 5 (prS [0])
    (fSeq (sFor (srcSeq [] (oTm (fCall gLstD (aCons (oTm (fC (.bl false))) (aCons (oTm (fC (.bl true))) aNil))))) (gSet 1)
    fb__law_split_right_1)
    (sRet (fC (.bl true))))
def m__law_wide_gap : M T := fBody 1 1 (prS [0])
    (sRet (fDef m__law_pick (aCons (oVar 0) (aCons (oTm (fCall gLstD (aCons (oTm (fC (.str " "))) (aCons (oTm (fC (.str "\n"))) (aCons (oTm (fC (.str "  "))) (aCons (oTm (fC (.str " \n"))) (aCons (oTm (fC (.str "\n\n "))) aNil))))))) aNil))))
def m__law_gap : M T := fBody 1 1 (prS [0])
    (sRet (fDef m__law_pick (aCons (oVar 0) (aCons (oTm (fCall gLstD (aCons (oTm (fC (.str ""))) (aCons (oTm (fC (.str ""))) (aCons (oTm (fC (.str " "))) (aCons (oTm (fC (.str "\n"))) (aCons (oTm (fC (.str "  "))) aNil))))))) aNil))))
def ce__law_run_text_1 : M T := (fFrz (fOf (oVar 2)))
def ce__law_run_text_2 : M T := (fFrz (fDef m__law_pick (aCons (oVar 0) (aCons (oTm (fDef m__law_run_signs aNil)) aNil))))
def m__law_run_text : M T := fBody 1 4 (prS [0])
    (fSeq (sSet 1 (fOp2 gAdd (oTm (fC (.int 1))) (oTm (fDef m__law_draw (aCons (oVar 0) (aCons (oTm (fC (.int 30))) aNil))))))
    (fSeq (mIf (fTest (fOp2 gEq (oTm (fDef m__law_draw (aCons (oVar 0) (aCons (oTm (fC (.int 16))) aNil)))) (oTm (fC (.int 9)))))
    (sSet 1 (fOp2 gAdd (oTm (fC (.int 200))) (oTm (fDef m__law_draw (aCons (oVar 0) (aCons (oTm (fC (.int 700))) aNil))))))
    sNx)
    (fSeq (sSet 2 (fMt gJoin (oStr (oTm (fC (.str "")))) (aCons (oTm (fComp [3] (srcRange1 (aCons (oTm (fCall gMin2 (aCons (oVar 1) (aCons (oTm (fC (.int 12))) aNil)))) aNil)) (gSet 3) (M.pure true) ce__law_run_text_2)) aNil)))
    (sRet (fSl gSl (oTm (fMt gJoin (oStr (oTm (fC (.str "")))) (aCons (oTm (fComp [3] (srcRange1 (aCons (oTm (fC (.int 75))) aNil)) (gSet 3) (M.pure true) ce__law_run_text_1)) aNil))) pNo (pSo (oVar 1)))))))
def m__law_piece : M T := fBody 1 2 (prS [0])
    (fSeq (sSet 1 (fDef m__law_draw (aCons (oVar 0) (aCons (oTm (fC (.int 8))) aNil))))
    (fSeq (mIf (fTest (fOp2 gEq (oVar 1) (oTm (fC (.int 0)))))
    (sRet (fDef m__law_pick (aCons (oVar 0) (aCons (oTm (fDef m__law_pool aNil)) aNil))))
    sNx)
    (fSeq (mIf (fTest (fOp2 gEq (oVar 1) (oTm (fC (.int 1)))))
    (sRet (fDef m__law_pick (aCons (oVar 0) (aCons (oTm (fCall gLstD (aCons (oTm (fC (.str "->"))) (aCons (oTm (fC (.str "-"))) (aCons (oTm (fC (.str ">"))) (aCons (oTm (fC (.str "->>"))) (aCons (oTm (fC (.str "--"))) (aCons (oTm (fC (.str ">-"))) aNil)))))))) aNil))))
    sNx)
    (fSeq (mIf (fTest (fOp2 gEq (oVar 1) (oTm (fC (.int 2)))))
    (sRet (fDef m__law_pick (aCons (oVar 0) (aCons (oTm (fCall gLstD (aCons (oTm (fC (.str "("))) (aCons (oTm (fC (.str ")"))) (aCons (oTm (fC (.str "()"))) (aCons (oTm (fC (.str ";"))) (aCons (oTm (fC (.str ":"))) (aCons (oTm (fC (.str "+"))) (aCons (oTm (fC (.str "*"))) (aCons (oTm (fC (.str "."))) (aCons (oTm (fC (.str ","))) (aCons (oTm (fC (.str "_"))) aNil)))))))))))) aNil))))
    sNx)
    (fSeq (mIf (fTest (fOp2 gEq (oVar 1) (oTm (fC (.int 3)))))
    (sRet (fDef m__law_pick (aCons (oVar 0) (aCons (oTm (fDef m__law_all_signs aNil)) aNil))))
    sNx)
    (fSeq (mIf (fTest (fOp2 gEq (oVar 1) (oTm (fC (.int 4)))))
    (sRet (fCall gStrI (aCons (oTm (fDef m__law_draw (aCons (oVar 0) (aCons (oTm (fC (.int 1000))) aNil)))) aNil)))
    sNx)
    (sRet (fDef m__law_run_text (aCons (oVar 0) aNil)))))))))
def ce__law_some_text_1 : M T := (fFrz (fOf (oVar 6)))
def fb__law_some_text_1 : M Fl := (sSet 4 (fOp2 gAdd (oTm (fOp2 gAdd (oVar 4) (oTm (fDef m__law_piece (aCons (oVar 0) aNil))))) (oTm (fDef m__law_gap (aCons (oVar 0) aNil)))))
def ce__law_some_text_2 : M T := (fFrz (fDef m__law_pick (aCons (oVar 0) (aCons (oVar 3) aNil))))
def ce__law_some_text_3 : M T := (fFrz (fDef m__law_pick (aCons (oVar 0) (aCons (oVar 2) aNil))))
def m__law_some_text : M T := fBody 1 7 (prS [0])
    (fSeq (sSet 1 (fDef m__law_draw (aCons (oVar 0) (aCons (oTm (fC (.int 8))) aNil))))
    (fSeq (mIf (fTest (fOp2 gLt (oVar 1) (oTm (fC (.int 2)))))
    (fSeq (sSet 2 (fDef m__law_all_signs aNil))
    (sRet (fMt gJoin (oStr (oTm (fC (.str "")))) (aCons (oTm (fComp [5] (srcRange1 (aCons (oTm (fDef m__law_draw (aCons (oVar 0) (aCons (oTm (fC (.int 41))) aNil)))) aNil)) (gSet 5) (M.pure true) ce__law_some_text_3)) aNil))))
    sNx)
    (fSeq (mIf (fTest (fOp2 gLt (oVar 1) (oTm (fC (.int 4)))))
    (fSeq (sSet 3 (fCall gLstD (aCons (oTm (fC (.str "a"))) (aCons (oTm (fC (.str "Z"))) (aCons (oTm (fC (.str "0"))) (aCons (oTm (fC (.str "b9"))) (aCons (oTm (fC (.str "-"))) (aCons (oTm (fC (.str ">"))) (aCons (oTm (fC (.str "->"))) (aCons (oTm (fC (.str "-"))) (aCons (oTm (fC (.str ">"))) (aCons (oTm (fC (.str " "))) (aCons (oTm (fC (.str "\n"))) (aCons (oTm (fC (.str "("))) (aCons (oTm (fC (.str ")"))) (aCons (oTm (fC (.str ";"))) (aCons (oTm (fC (.str ":"))) (aCons (oTm (fC (.str "+"))) (aCons (oTm (fC (.str "_"))) (aCons (oTm (fC (.str "~"))) aNil))))))))))))))))))))
    (sRet (fMt gJoin (oStr (oTm (fC (.str "")))) (aCons (oTm (fComp [5] (srcRange1 (aCons (oTm (fDef m__law_draw (aCons (oVar 0) (aCons (oTm (fC (.int 41))) aNil)))) aNil)) (gSet 5) (M.pure true) ce__law_some_text_2)) aNil))))
    sNx)
    (fSeq (sSet 4 (fDef m__law_gap (aCons (oVar 0) aNil)))
    (fSeq (sFor (srcRange1 (aCons (oTm (fDef m__law_draw (aCons (oVar 0) (aCons (oTm (fC (.int 16))) aNil)))) aNil)) (gSet 5)
    fb__law_some_text_1)
    (fSeq (mIf (fTest (fOp2 gEq (oVar 1) (oTm (fC (.int 5)))))
    (fSeq (sSet 6 (fOf (oVar 4)))
    (sSet 4 (fMt gJoin (oStr (oTm (fC (.str "")))) (aCons (oTm (fComp [5] (srcRange1 (aCons (oTm (fOp2 gAdd (oTm (fC (.int 1))) (oTm (fDef m__law_draw (aCons (oVar 0) (aCons (oTm (fC (.int 60))) aNil)))))) aNil)) (gSet 5) (M.pure true) ce__law_some_text_1)) aNil))))
    sNx)
    (sRet (fSl gSl (oVar 4) pNo (pSo (oTm (fC (.int 950))))))))))))
def fb__law_spread_1 : M Fl := (sSet 2 (fOp2 gAdd (oTm (fOp2 gAdd (oVar 2) (oVar 3))) (oTm (fDef m__law_wide_gap (aCons (oVar 0) aNil)))))
def m__law_spread : M T := fBody 2 4 (prS [0, 1])
    (fSeq (sSet 2 (fDef m__law_gap (aCons (oVar 0) aNil)))
    (fSeq (sFor (srcSeq [1] (oVar 1)) (gSet 3)
    fb__law_spread_1)
    (sRet (fOf (oVar 2)))))
def ce_law_1 : M T := (fFrz (fDef m__law_split_right (aCons (oVar 7) aNil)))
def fb_law_1 : M Fl := (fSeq (sSet 6 (fDef m__law_own_tokens (aCons (oVar 2) (aCons (oVar 5) aNil))))
    (fSeq (sDrop (fMut 4 gAppend (aCons (oTm (fFrz (fDef m__law_spread (aCons (oVar 1) (aCons (oVar 6) aNil))))) aNil)))
    (mIf (fTest (fOp2 gGt (oTm (fCall gLen (aCons (oVar 6) aNil))) (oTm (fC (.int 0)))))
    (sDrop (fMut 4 gAppend (aCons (oTm (fFrz (fDef m__law_pick (aCons (oVar 1) (aCons (oVar 6) aNil))))) aNil)))
    sNx)))
def m_law : M T := fBody 1 8 (prS [0])
    (fSeq (sSet 1 (fDef m__law_begin (aCons (oVar 0) aNil)))
    (fSeq (sSet 2 (fDef m__law_some_text (aCons (oVar 1) aNil)))
    (fSeq (sSet 3 (fDef m__law_some_text (aCons (oVar 1) aNil)))
    (fSeq (sSet 4 (fCall gLstD (aCons (oTm (fFrz (fOf (oVar 2)))) (aCons (oTm (fFrz (fOf (oVar 3)))) (aCons (oTm (fFrz (fOp2 gAdd (oTm (fOp2 gAdd (oVar 2) (oTm (fDef m__law_wide_gap (aCons (oVar 1) aNil))))) (oVar 3)))) (aCons (oTm (fFrz (fOp2 gAdd (oVar 2) (oVar 3)))) (aCons (oTm (fC (.str ""))) aNil)))))))
    (fSeq (sFor (srcSeq [] (oTm (fCall gLstD (aCons (oTm (fC (.bl false))) (aCons (oTm (fC (.bl true))) aNil))))) (gSet 5)
    fb_law_1)
    (fSeq (sDrop (fMut 4 gAppend (aCons (oTm (fFrz (fOf (oVar 2)))) aNil)))
    (sRet (fCall gAll (aCons (oTm (fComp [7] (srcSeq [4] (oVar 4)) (gSet 7) (M.pure true) ce_law_1)) aNil)))))))))
/-! ### the defs do so -/
section
variable {P : Program} {w : World} {K : PySem.W.Frag} {mg : Str → Option Value} {base : Heap}
theorem ok_runs_on (G : Top K mg) : Def P w K mg base "runs_on" 1 1 m_runs_on := by
  obtain ⟨f, fd, hm, F, b⟩ := G.f_runs_on
  obtain ⟨t_CAPITALS, h_CAPITALS, r_CAPITALS⟩ := G.c_CAPITALS
  obtain ⟨t_FIGURES, h_FIGURES, r_FIGURES⟩ := G.c_FIGURES
  obtain ⟨t_LETTERS, h_LETTERS, r_LETTERS⟩ := G.c_LETTERS
  have nd := sc_runs_on.nd
  exact Def.of F hm sc_runs_on b rfl rfl fun cd A outer s H E hr => (fss_one (fs_ret (fe_or (fe_cmp s_in op_inA (fo_var (i := 0) rfl (.inl rfl)) (fo_tm (fe_glob (v := .str _) rfl h_LETTERS r_LETTERS (fun _ => .str _))) rfl) (fe_or (fe_cmp s_in op_inA (fo_var (i := 0) rfl (.inl rfl)) (fo_tm (fe_glob (v := .str _) rfl h_CAPITALS r_CAPITALS (fun _ => .str _))) rfl) (fe_one (fe_cmp s_in op_inA (fo_var (i := 0) rfl (.inl rfl)) (fo_tm (fe_glob (v := .str _) rfl h_FIGURES r_FIGURES (fun _ => .str _))) rfl))))))
theorem ok_end_of_run (G : Top K mg) : Def P w K mg base "end_of_run" 2 2 m_end_of_run := by
  obtain ⟨f, fd, hm, F, b⟩ := G.f_end_of_run
  have D_runs_on : Def P w K mg base "runs_on" 1 1 m_runs_on := ok_runs_on G
  have nd := sc_end_of_run.nd
  exact Def.of F hm sc_end_of_run b rfl rfl fun cd A outer s H E hr => (fss_cons (fs_set (i := 2) (fe_of (fo_var (i := 1) rfl (.inl rfl))) nd rfl (.inl rfl))
    (fss_cons (fs_while passB (ft_w (fw_and (ft_cmp s_lt op_lt (fo_var (i := 2) rfl (.inl rfl)) (fo_tm (fe_callB s_len call_lenA rfl G.n_len b_len (fa_cons (fo_var (i := 0) rfl (.inl rfl)) fa_nil))) (nomark _)) (fw_and1 (ft_val (fe_def D_runs_on (hr.mono (by decide)) takesB rfl (fa_cons (fo_tm (fe_ix s_ix ix_all (fo_var (i := 0) rfl (.inl rfl)) (fo_var (i := 2) rfl (.inl rfl)) (fun _ _ => rfl))) fa_nil))))))
    (fss_one (fs_aug (i := 2) s_iadd ip_addA (fo_tm fe_int) nd rfl (.inl rfl))))
    (fss_one (fs_ret (fe_of (fo_var (i := 2) rfl (.inl rfl)))))))
theorem ok_task_tokens (G : Top K mg) : Def P w K mg base "task_tokens" 3 1 m_task_tokens := by
  obtain ⟨f, fd, hm, F, b⟩ := G.f_task_tokens
  have D_end_of_run : Def P w K mg base "end_of_run" 2 2 m_end_of_run := ok_end_of_run G
  have D_runs_on : Def P w K mg base "runs_on" 1 1 m_runs_on := ok_runs_on G
  have nd := sc_task_tokens.nd
  exact Def.of F hm sc_task_tokens b rfl rfl fun cd A outer s H E hr => (fss_cons (fs_set (i := 1) (fe_lst fa_nil) nd rfl (.inl rfl))
    (fss_cons (fs_set (i := 2) fe_int nd rfl (.inl rfl))
    (fss_cons (fs_while passB (ft_cmp s_lt op_lt (fo_var (i := 2) rfl (.inl rfl)) (fo_tm (fe_callB s_len call_lenA rfl G.n_len b_len (fa_cons (fo_var (i := 0) rfl (.inl rfl)) fa_nil))) (nomark _))
    (fss_cons (fs_set (i := 3) (fe_ix s_ix ix_all (fo_var (i := 0) rfl (.inl rfl)) (fo_var (i := 2) rfl (.inl rfl)) (fun _ _ => rfl)) nd rfl (.inl rfl))
    (fss_one (fs_if (ft_w (fw_or (ft_cmp s_eq (op_eqA hr.units) (fo_var (i := 3) rfl (.inl rfl)) (fo_tm fe_str) (nomark _)) (fw_or1 (ft_cmp s_eq (op_eqA hr.units) (fo_var (i := 3) rfl (.inl rfl)) (fo_tm fe_str) (nomark _)))))
    (fss_one (fs_aug (i := 2) s_iadd ip_addA (fo_tm fe_int) nd rfl (.inl rfl)))
    (fss_one (fs_if (ft_val (fe_def D_runs_on (hr.mono (by decide)) takesB rfl (fa_cons (fo_var (i := 3) rfl (.inl rfl)) fa_nil)))
    (fss_cons (fs_set (i := 4) (fe_def D_end_of_run (hr.mono (by decide)) takesB rfl (fa_cons (fo_var (i := 0) rfl (.inl rfl)) (fa_cons (fo_var (i := 2) rfl (.inl rfl)) fa_nil))) nd rfl (.inl rfl))
    (fss_cons (fs_expr (fe_mut (i := 1) s_append PySem.F.slot_list_append PySem.F.type_list_append mt_append rfl (.inl rfl) (fa_cons (fo_tm (fe_frz (fe_slice s_sl sl_all (fo_var (i := 0) rfl (.inl rfl)) (fp_some (fo_var (i := 2) rfl (.inl rfl))) (fp_some (fo_var (i := 4) rfl (.inl rfl)))))) fa_nil)))
    (fss_one (fs_set (i := 2) (fe_of (fo_var (i := 4) rfl (.inl rfl))) nd rfl (.inl rfl)))))
    (fss_one (fs_if (ft_cmp s_eq (op_eqA hr.units) (fo_tm (fe_slice s_sl sl_all (fo_var (i := 0) rfl (.inl rfl)) (fp_some (fo_var (i := 2) rfl (.inl rfl))) (fp_some (fo_tm (fe_bin s_add op_addA (fo_var (i := 2) rfl (.inl rfl)) (fo_tm fe_int)))))) (fo_tm fe_str) (nomark _))
    (fss_cons (fs_expr (fe_mut (i := 1) s_append PySem.F.slot_list_append PySem.F.type_list_append mt_append rfl (.inl rfl) (fa_cons (fo_tm fe_str) fa_nil)))
    (fss_one (fs_aug (i := 2) s_iadd ip_addA (fo_tm fe_int) nd rfl (.inl rfl))))
    (fss_cons (fs_expr (fe_mut (i := 1) s_append PySem.F.slot_list_append PySem.F.type_list_append mt_append rfl (.inl rfl) (fa_cons (fo_tm (fe_frz (fe_of (fo_var (i := 3) rfl (.inl rfl))))) fa_nil)))
    (fss_one (fs_aug (i := 2) s_iadd ip_addA (fo_tm fe_int) nd rfl (.inl rfl))))))))))))
    (fss_one (fs_ret (fe_callTy s_tupleOf call_tuple_of rfl G.n_tuple b_tuple (fa_cons (fo_var (i := 1) rfl (.inl rfl)) fa_nil)))))))
theorem ok_is_apart (G : Top K mg) : Def P w K mg base "is_apart" 1 1 m_is_apart := by
  obtain ⟨f, fd, hm, F, b⟩ := G.f_is_apart
  have nd := sc_is_apart.nd
  exact Def.of F hm sc_is_apart b rfl rfl fun cd A outer s H E hr => (fss_one (fs_ret (fe_or (fe_cmp s_eq (op_eqA hr.units) (fo_var (i := 0) rfl (.inl rfl)) (fo_tm fe_str) (nomark _)) (fe_or (fe_cmp s_eq (op_eqA hr.units) (fo_var (i := 0) rfl (.inl rfl)) (fo_tm fe_str) (nomark _)) (fe_or (fe_cmp s_eq (op_eqA hr.units) (fo_var (i := 0) rfl (.inl rfl)) (fo_tm fe_str) (nomark _)) (fe_one (fe_cmp s_eq (op_eqA hr.units) (fo_var (i := 0) rfl (.inl rfl)) (fo_tm fe_str) (nomark _))))))))
theorem ok_paper_tokens (G : Top K mg) : Def P w K mg base "paper_tokens" 2 1 m_paper_tokens := by
  obtain ⟨f, fd, hm, F, b⟩ := G.f_paper_tokens
  have D_is_apart : Def P w K mg base "is_apart" 1 1 m_is_apart := ok_is_apart G
  have nd := sc_paper_tokens.nd
  exact Def.of F hm sc_paper_tokens b rfl rfl fun cd A outer s H E hr => (fss_cons (fs_set (i := 1) (fe_lst fa_nil) nd rfl (.inl rfl))
    (fss_cons (fs_set (i := 2) fe_int nd rfl (.inl rfl))
    (fss_cons (fs_while passB (ft_cmp s_lt op_lt (fo_var (i := 2) rfl (.inl rfl)) (fo_tm (fe_callB s_len call_lenA rfl G.n_len b_len (fa_cons (fo_var (i := 0) rfl (.inl rfl)) fa_nil))) (nomark _))
    (fss_cons (fs_set (i := 3) (fe_ix s_ix ix_all (fo_var (i := 0) rfl (.inl rfl)) (fo_var (i := 2) rfl (.inl rfl)) (fun _ _ => rfl)) nd rfl (.inl rfl))
    (fss_one (fs_if (ft_w (fw_or (ft_cmp s_eq (op_eqA hr.units) (fo_var (i := 3) rfl (.inl rfl)) (fo_tm fe_str) (nomark _)) (fw_or1 (ft_cmp s_eq (op_eqA hr.units) (fo_var (i := 3) rfl (.inl rfl)) (fo_tm fe_str) (nomark _)))))
    (fss_one (fs_aug (i := 2) s_iadd ip_addA (fo_tm fe_int) nd rfl (.inl rfl)))
    (fss_one (fs_if (ft_w (fw_or (ft_cmp s_eq (op_eqA hr.units) (fo_var (i := 3) rfl (.inl rfl)) (fo_tm fe_str) (nomark _)) (fw_or1 (ft_cmp s_eq (op_eqA hr.units) (fo_var (i := 3) rfl (.inl rfl)) (fo_tm fe_str) (nomark _)))))
    (fss_cons (fs_expr (fe_mut (i := 1) s_append PySem.F.slot_list_append PySem.F.type_list_append mt_append rfl (.inl rfl) (fa_cons (fo_tm (fe_frz (fe_of (fo_var (i := 3) rfl (.inl rfl))))) fa_nil)))
    (fss_one (fs_aug (i := 2) s_iadd ip_addA (fo_tm fe_int) nd rfl (.inl rfl))))
    (fss_cons (fs_set (i := 4) (fe_of (fo_var (i := 2) rfl (.inl rfl))) nd rfl (.inl rfl))
    (fss_cons (fs_while passB (ft_w (fw_and (ft_cmp s_lt op_lt (fo_var (i := 4) rfl (.inl rfl)) (fo_tm (fe_callB s_len call_lenA rfl G.n_len b_len (fa_cons (fo_var (i := 0) rfl (.inl rfl)) fa_nil))) (nomark _)) (fw_and1 (ft_not (ft_val (fe_def D_is_apart (hr.mono (by decide)) takesB rfl (fa_cons (fo_tm (fe_ix s_ix ix_all (fo_var (i := 0) rfl (.inl rfl)) (fo_var (i := 4) rfl (.inl rfl)) (fun _ _ => rfl))) fa_nil)))))))
    (fss_one (fs_aug (i := 4) s_iadd ip_addA (fo_tm fe_int) nd rfl (.inl rfl))))
    (fss_cons (fs_expr (fe_mut (i := 1) s_append PySem.F.slot_list_append PySem.F.type_list_append mt_append rfl (.inl rfl) (fa_cons (fo_tm (fe_frz (fe_slice s_sl sl_all (fo_var (i := 0) rfl (.inl rfl)) (fp_some (fo_var (i := 2) rfl (.inl rfl))) (fp_some (fo_var (i := 4) rfl (.inl rfl)))))) fa_nil)))
    (fss_one (fs_set (i := 2) (fe_of (fo_var (i := 4) rfl (.inl rfl))) nd rfl (.inl rfl))))))))))))
    (fss_one (fs_ret (fe_callTy s_tupleOf call_tuple_of rfl G.n_tuple b_tuple (fa_cons (fo_var (i := 1) rfl (.inl rfl)) fa_nil)))))))
theorem ok__law_begin (G : Top K mg) : Def P w K mg base "_law_begin" 1 1 m__law_begin := by
  obtain ⟨f, fd, hm, F, b⟩ := G.f__law_begin
  have nd := sc__law_begin.nd
  exact Def.of F hm sc__law_begin b rfl rfl fun cd A outer s H E hr => (fss_one (fs_ret (fe_lst (fa_cons (fo_tm (fe_frz (fe_comp (own := [("cell", 1)]) (lv := [0]) rfl nd (fi_seq (lv := [0]) (fo_var (i := 0) rfl (.inl rfl))) (blkOk_by (N := N__law_begin) (sc := defScope s__law_begin) (by decide +kernel)) (fun _ _ _ _ _ => (fg_name (i := 1) nd rfl (.inl rfl))) (fun _ _ _ _ _ => fts_nil) (fun _ _ _ _ _ => (fe_callTy s_int call_int1 rfl G.n_int b_int (fa_cons (fo_var (i := 1) rfl (.inl rfl)) fa_nil)))))) (fa_cons (fo_tm fe_int) (fa_cons (fo_tm fe_int) (fa_cons (fo_tm fe_int) (fa_cons (fo_tm fe_int) fa_nil))))))))
theorem ok__law_draw (G : Top K mg) : Def P w K mg base "_law_draw" 1 2 m__law_draw := by
  obtain ⟨f, fd, hm, F, b⟩ := G.f__law_draw
  have nd := sc__law_draw.nd
  exact Def.of F hm sc__law_draw b rfl rfl fun cd A outer s H E hr => (fss_cons (fs_if (ft_cmp s_gt op_gt (fo_tm (fe_ix s_ix ix_all (fo_var (i := 0) rfl (.inl rfl)) (fo_tm fe_int) (fun _ _ => rfl))) (fo_tm fe_int) (nomark _))
    (fss_cons (fs_set (i := 2) (fe_ix s_ix ix_all (fo_var (i := 0) rfl (.inl rfl)) (fo_tm fe_int) (fun _ _ => rfl)) nd rfl (.inl rfl))
    (fss_cons (fs_setI (i := 0) (fe_bin s_fdiv op_fdivA (fo_var (i := 2) rfl (.inl rfl)) (fo_var (i := 1) rfl (.inl rfl))) rfl (.inl rfl) (fo_tm fe_int))
    (fss_one (fs_ret (fe_bin s_mod op_mod (fo_tm (fe_callTy s_int call_int1 rfl G.n_int b_int (fa_cons (fo_var (i := 2) rfl (.inl rfl)) fa_nil))) (fo_var (i := 1) rfl (.inl rfl)))))))
    fss_nil)
    (fss_cons (fs_set (i := 3) fe_int nd rfl (.inl rfl))
    (fss_cons (fs_if (ft_cmp s_lt op_lt (fo_tm (fe_ix s_ix ix_all (fo_var (i := 0) rfl (.inl rfl)) (fo_tm fe_int) (fun _ _ => rfl))) (fo_tm (fe_callB s_len call_lenA rfl G.n_len b_len (fa_cons (fo_tm (fe_ix s_ix ix_all (fo_var (i := 0) rfl (.inl rfl)) (fo_tm fe_int) (fun _ _ => rfl))) fa_nil))) (nomark _))
    (fss_cons (fs_set (i := 4) (fe_ix s_ix ix_all (fo_tm (fe_ix s_ix ix_all (fo_var (i := 0) rfl (.inl rfl)) (fo_tm fe_int) (fun _ _ => rfl))) (fo_tm (fe_ix s_ix ix_all (fo_var (i := 0) rfl (.inl rfl)) (fo_tm fe_int) (fun _ _ => rfl))) (fun _ _ => rfl)) nd rfl (.inl rfl))
    (fss_one (fs_set (i := 3) (fe_bin s_add op_addA (fo_tm (fe_bin s_mul op_mulA (fo_tm fe_int) (fo_tm (fe_callB s_abs call_abs rfl G.n_abs b_abs (fa_cons (fo_var (i := 4) rfl (.inl rfl)) fa_nil))))) (fo_tm (fe_callTy s_int call_int1 rfl G.n_int b_int (fa_cons (fo_tm (fe_cmp s_lt op_lt (fo_var (i := 4) rfl (.inl rfl)) (fo_tm fe_int) (nomark _))) fa_nil)))) nd rfl (.inl rfl))))
    fss_nil)
    (fss_cons (fs_augI (i := 0) s_iadd ip_addA (fo_tm fe_int) rfl (.inl rfl) (fo_tm fe_int))
    (fss_cons (fs_if (ft_cmp s_ge op_ge (fo_var (i := 3) rfl (.inl rfl)) (fo_tm (fe_bin s_mul op_mulA (fo_tm fe_int) (fo_tm (fe_bin s_pow op_pow (fo_tm fe_int) (fo_tm fe_int))))) (nomark _))
    (fss_cons (fs_set (i := 2) (fe_bin s_mod op_mod (fo_tm (fe_callTy s_int call_int1 rfl G.n_int b_int (fa_cons (fo_tm (fe_bin s_fdiv op_fdivA (fo_var (i := 3) rfl (.inl rfl)) (fo_tm fe_int))) fa_nil))) (fo_tm (fe_bin s_shl op_shl (fo_tm fe_int) (fo_tm fe_int)))) nd rfl (.inl rfl))
    (fss_cons (fs_setI (i := 0) (fe_bin s_fdiv op_fdivA (fo_var (i := 2) rfl (.inl rfl)) (fo_var (i := 1) rfl (.inl rfl))) rfl (.inl rfl) (fo_tm fe_int))
    (fss_one (fs_ret (fe_bin s_mod op_mod (fo_tm (fe_callTy s_int call_int1 rfl G.n_int b_int (fa_cons (fo_var (i := 2) rfl (.inl rfl)) fa_nil))) (fo_var (i := 1) rfl (.inl rfl)))))))
    fss_nil)
    (fss_cons (fs_setI (i := 0) (fe_bin s_mod op_mod (fo_tm (fe_callTy s_int call_int1 rfl G.n_int b_int (fa_cons (fo_tm (fe_bin s_add op_addA (fo_tm (fe_bin s_add op_addA (fo_tm (fe_bin s_add op_addA (fo_tm (fe_bin s_mul op_mulA (fo_tm (fe_ix s_ix ix_all (fo_var (i := 0) rfl (.inl rfl)) (fo_tm fe_int) (fun _ _ => rfl))) (fo_tm fe_int))) (fo_tm (fe_bin s_mul op_mulA (fo_tm (fe_bin s_mod op_mod (fo_tm (fe_callTy s_int call_int1 rfl G.n_int b_int (fa_cons (fo_var (i := 3) rfl (.inl rfl)) fa_nil))) (fo_tm fe_int))) (fo_tm fe_int))))) (fo_tm (fe_bin s_mul op_mulA (fo_tm (fe_ix s_ix ix_all (fo_var (i := 0) rfl (.inl rfl)) (fo_tm fe_int) (fun _ _ => rfl))) (fo_tm fe_int))))) (fo_tm fe_int))) fa_nil))) (fo_tm fe_int)) rfl (.inl rfl) (fo_tm fe_int))
    (fss_one (fs_ret (fe_bin s_mod op_mod (fo_tm (fe_callTy s_int call_int1 rfl G.n_int b_int (fa_cons (fo_tm (fe_bin s_fdiv op_fdivA (fo_tm (fe_ix s_ix ix_all (fo_var (i := 0) rfl (.inl rfl)) (fo_tm fe_int) (fun _ _ => rfl))) (fo_tm fe_int))) fa_nil))) (fo_var (i := 1) rfl (.inl rfl)))))))))))
theorem ok__law_pick (G : Top K mg) : Def P w K mg base "_law_pick" 2 2 m__law_pick := by
  obtain ⟨f, fd, hm, F, b⟩ := G.f__law_pick
  have D__law_draw : Def P w K mg base "_law_draw" 1 2 m__law_draw := ok__law_draw G
  have nd := sc__law_pick.nd
  exact Def.of F hm sc__law_pick b rfl rfl fun cd A outer s H E hr => (fss_one (fs_ret (fe_ix s_ix ix_all (fo_var (i := 1) rfl (.inl rfl)) (fo_tm (fe_def D__law_draw (hr.mono (by decide)) takesB rfl (fa_cons (fo_var (i := 0) rfl (.inl rfl)) (fa_cons (fo_tm (fe_callB s_len call_lenA rfl G.n_len b_len (fa_cons (fo_var (i := 1) rfl (.inl rfl)) fa_nil))) fa_nil)))) (fun _ _ => rfl))))
theorem ok__law_pool (G : Top K mg) : Def P w K mg base "_law_pool" 1 0 m__law_pool := by
  obtain ⟨f, fd, hm, F, b⟩ := G.f__law_pool
  have nd := sc__law_pool.nd
  exact Def.of F hm sc__law_pool b rfl rfl fun cd A outer s H E hr => (fss_cons (fs_set (i := 0) fe_str nd rfl (.inl rfl))
    (fss_cons (fs_set (i := 0) (fe_bin s_add op_addA (fo_var (i := 0) rfl (.inl rfl)) (fo_tm fe_str)) nd rfl (.inl rfl))
    (fss_one (fs_ret (fe_mstr s_split PySem.F.slot_str_split PySem.F.type_str_split mt_split (fo_tm (fe_bin s_add op_addA (fo_var (i := 0) rfl (.inl rfl)) (fo_tm fe_str))) (fa_cons (fo_tm fe_str) fa_nil))))))
theorem ok__law_all_signs (G : Top K mg) : Def P w K mg base "_law_all_signs" 1 0 m__law_all_signs := by
  obtain ⟨f, fd, hm, F, b⟩ := G.f__law_all_signs
  have nd := sc__law_all_signs.nd
  exact Def.of F hm sc__law_all_signs b rfl rfl fun cd A outer s H E hr => (fss_cons (fs_set (i := 0) fe_str nd rfl (.inl rfl))
    (fss_one (fs_ret (fe_bin s_add op_addA (fo_var (i := 0) rfl (.inl rfl)) (fo_tm fe_str)))))
theorem ok__law_run_signs (G : Top K mg) : Def P w K mg base "_law_run_signs" 1 0 m__law_run_signs := by
  obtain ⟨f, fd, hm, F, b⟩ := G.f__law_run_signs
  have nd := sc__law_run_signs.nd
  exact Def.of F hm sc__law_run_signs b rfl rfl fun cd A outer s H E hr => (fss_one (fs_ret fe_str))
theorem ok__law_sticks (G : Top K mg) : Def P w K mg base "_law_sticks" 2 3 m__law_sticks := by
  obtain ⟨f, fd, hm, F, b⟩ := G.f__law_sticks
  have D__law_run_signs : Def P w K mg base "_law_run_signs" 1 0 m__law_run_signs := ok__law_run_signs G
  have nd := sc__law_sticks.nd
  exact Def.of F hm sc__law_sticks b rfl rfl fun cd A outer s H E hr => (fss_cons (fs_if (ft_val (fe_of (fo_var (i := 2) rfl (.inl rfl))))
    (fss_one (fs_ret (fe_and (fe_cmp s_notIn op_notInA (fo_var (i := 0) rfl (.inl rfl)) (fo_tm fe_str) rfl) (fe_one (fe_cmp s_notIn op_notInA (fo_var (i := 1) rfl (.inl rfl)) (fo_tm fe_str) rfl)))))
    fss_nil)
    (fss_cons (fs_if (ft_cmp s_in op_inA (fo_var (i := 0) rfl (.inl rfl)) (fo_tm (fe_def0 D__law_run_signs (hr.mono (by decide)) takesB rfl)) rfl)
    (fss_one (fs_ret (fe_cmp s_in op_inA (fo_var (i := 1) rfl (.inl rfl)) (fo_tm (fe_def0 D__law_run_signs (hr.mono (by decide)) takesB rfl)) rfl)))
    fss_nil)
    (fss_one (fs_ret (fe_and (fe_cmp s_eq (op_eqA hr.units) (fo_var (i := 0) rfl (.inl rfl)) (fo_tm fe_str) (nomark _)) (fe_one (fe_cmp s_eq (op_eqA hr.units) (fo_var (i := 1) rfl (.inl rfl)) (fo_tm fe_str) (nomark _))))))))
theorem ok__law_own_tokens (G : Top K mg) : Def P w K mg base "_law_own_tokens" 3 2 m__law_own_tokens := by
  obtain ⟨f, fd, hm, F, b⟩ := G.f__law_own_tokens
  have D__law_sticks : Def P w K mg base "_law_sticks" 2 3 m__law_sticks := ok__law_sticks G
  have nd := sc__law_own_tokens.nd
  exact Def.of F hm sc__law_own_tokens b rfl rfl fun cd A outer s H E hr => (fss_cons (fs_set (i := 2) (fe_lst fa_nil) nd rfl (.inl rfl))
    (fss_cons (fs_for (lv := []) passB rfl (fi_range1 rfl G.n_range (fa_cons (fo_tm (fe_callB s_len call_lenA rfl G.n_len b_len (fa_cons (fo_var (i := 0) rfl (.inl rfl)) fa_nil))) fa_nil)) (fg_name (i := 3) nd rfl (.inl rfl))
    (fss_cons (fs_set (i := 4) (fe_ix s_ix ix_all (fo_var (i := 0) rfl (.inl rfl)) (fo_var (i := 3) rfl (.inl rfl)) (fun _ _ => rfl)) nd rfl (.inl rfl))
    (fss_cons (fs_if (ft_w (fw_or (ft_cmp s_eq (op_eqA hr.units) (fo_var (i := 4) rfl (.inl rfl)) (fo_tm fe_str) (nomark _)) (fw_or1 (ft_cmp s_eq (op_eqA hr.units) (fo_var (i := 4) rfl (.inl rfl)) (fo_tm fe_str) (nomark _)))))
    (fss_one fs_continue)
    fss_nil)
    (fss_one (fs_if (ft_w (fw_and (ft_cmp s_gt op_gt (fo_var (i := 3) rfl (.inl rfl)) (fo_tm fe_int) (nomark _)) (fw_and1 (ft_val (fe_def D__law_sticks (hr.mono (by decide)) takesB rfl (fa_cons (fo_tm (fe_ix s_ix ix_all (fo_var (i := 0) rfl (.inl rfl)) (fo_tm (fe_bin s_sub op_sub (fo_var (i := 3) rfl (.inl rfl)) (fo_tm fe_int))) (fun _ _ => rfl))) (fa_cons (fo_var (i := 4) rfl (.inl rfl)) (fa_cons (fo_var (i := 1) rfl (.inl rfl)) fa_nil))))))))
    (fss_cons (fs_set (i := 5) (fe_bin s_sub op_sub (fo_tm (fe_callB s_len call_lenA rfl G.n_len b_len (fa_cons (fo_var (i := 2) rfl (.inl rfl)) fa_nil))) (fo_tm fe_int)) nd rfl (.inl rfl))
    (fss_one (fs_setI (i := 2) (fe_frz (fe_bin s_add op_addA (fo_tm (fe_ix s_ix ix_all (fo_var (i := 2) rfl (.inl rfl)) (fo_var (i := 5) rfl (.inl rfl)) (fun _ _ => rfl))) (fo_var (i := 4) rfl (.inl rfl)))) rfl (.inl rfl) (fo_var (i := 5) rfl (.inl rfl)))))
    (fss_one (fs_expr (fe_mut (i := 2) s_append PySem.F.slot_list_append PySem.F.type_list_append mt_append rfl (.inl rfl) (fa_cons (fo_tm (fe_frz (fe_of (fo_var (i := 4) rfl (.inl rfl))))) fa_nil)))))))))
    (fss_one (fs_ret (fe_of (fo_var (i := 2) rfl (.inl rfl)))))))
theorem ok__law_split_right (G : Top K mg) : Def P w K mg base "_law_split_right" 4 1 m__law_split_right := by
  obtain ⟨f, fd, hm, F, b⟩ := G.f__law_split_right
  have D__law_own_tokens : Def P w K mg base "_law_own_tokens" 3 2 m__law_own_tokens := ok__law_own_tokens G
  have D_paper_tokens : Def P w K mg base "paper_tokens" 2 1 m_paper_tokens := ok_paper_tokens G
  have D_task_tokens : Def P w K mg base "task_tokens" 3 1 m_task_tokens := ok_task_tokens G
  have nd := sc__law_split_right.nd
  exact Def.of F hm sc__law_split_right b rfl rfl fun cd A outer s H E hr => (fss_cons (fs_for (lv := []) passB rfl (fi_seq (lv := []) (fo_tm (fe_lst (fa_cons (fo_tm fe_bl) (fa_cons (fo_tm fe_bl) fa_nil))))) (fg_name (i := 1) nd rfl (.inl rfl))
    (fss_cons (fs_set (i := 2) (fe_def D__law_own_tokens (hr.mono (by decide)) takesB rfl (fa_cons (fo_var (i := 0) rfl (.inl rfl)) (fa_cons (fo_var (i := 1) rfl (.inl rfl)) fa_nil))) nd rfl (.inl rfl))
    (fss_cons (fs_if (ft_val (fe_of (fo_var (i := 1) rfl (.inl rfl))))
    (fss_one (fs_set (i := 3) (fe_def D_paper_tokens (hr.mono (by decide)) takesB rfl (fa_cons (fo_var (i := 0) rfl (.inl rfl)) fa_nil)) nd rfl (.inl rfl)))
    (fss_one (fs_set (i := 3) (fe_def D_task_tokens (hr.mono (by decide)) takesB rfl (fa_cons (fo_var (i := 0) rfl (.inl rfl)) fa_nil)) nd rfl (.inl rfl))))
    (fss_cons (fs_if (ft_w (fw_or (ft_not (ft_val (fe_is tab_tuple rfl G.n_isinstance rfl G.n_tuple b_tuple (fo_var (i := 3) rfl (.inl rfl))))) (fw_or1 (ft_not (ft_val (fe_callB s_all (cr_all rfl) rfl G.n_all b_all (fa_cons (fo_tm (fe_comp (own := [("token", 4)]) (lv := [3]) rfl nd (fi_seq (lv := [3]) (fo_var (i := 3) rfl (.inl rfl))) (blkOk_by (N := N__law_split_right) (sc := defScope s__law_split_right) (by decide +kernel)) (fun _ _ _ _ _ => (fg_name (i := 4) nd rfl (.inl rfl))) (fun _ _ _ _ _ => fts_nil) (fun _ _ _ _ _ => (fe_is tab_str rfl G.n_isinstance rfl G.n_str b_str (fo_var (i := 4) rfl (.inl rfl)))))) fa_nil)))))))
    (fss_one (fs_ret fe_bl))
    fss_nil)
    (fss_one (fs_if (ft_cmp s_ne (op_neA hr.units) (fo_tm (fe_callTy s_listOf call_list_of rfl G.n_list b_list (fa_cons (fo_var (i := 3) rfl (.inl rfl)) fa_nil))) (fo_var (i := 2) rfl (.inl rfl)) (nomark _))
    (fss_one (fs_ret fe_bl))
    fss_nil))))))
    (fss_one (fs_ret fe_bl)))
theorem ok__law_wide_gap (G : Top K mg) : Def P w K mg base "_law_wide_gap" 3 1 m__law_wide_gap := by
  obtain ⟨f, fd, hm, F, b⟩ := G.f__law_wide_gap
  have D__law_pick : Def P w K mg base "_law_pick" 2 2 m__law_pick := ok__law_pick G
  have nd := sc__law_wide_gap.nd
  exact Def.of F hm sc__law_wide_gap b rfl rfl fun cd A outer s H E hr => (fss_one (fs_ret (fe_def D__law_pick (hr.mono (by decide)) takesB rfl (fa_cons (fo_var (i := 0) rfl (.inl rfl)) (fa_cons (fo_tm (fe_lst (fa_cons (fo_tm fe_str) (fa_cons (fo_tm fe_str) (fa_cons (fo_tm fe_str) (fa_cons (fo_tm fe_str) (fa_cons (fo_tm fe_str) fa_nil))))))) fa_nil)))))
theorem ok__law_gap (G : Top K mg) : Def P w K mg base "_law_gap" 3 1 m__law_gap := by
  obtain ⟨f, fd, hm, F, b⟩ := G.f__law_gap
  have D__law_pick : Def P w K mg base "_law_pick" 2 2 m__law_pick := ok__law_pick G
  have nd := sc__law_gap.nd
  exact Def.of F hm sc__law_gap b rfl rfl fun cd A outer s H E hr => (fss_one (fs_ret (fe_def D__law_pick (hr.mono (by decide)) takesB rfl (fa_cons (fo_var (i := 0) rfl (.inl rfl)) (fa_cons (fo_tm (fe_lst (fa_cons (fo_tm fe_str) (fa_cons (fo_tm fe_str) (fa_cons (fo_tm fe_str) (fa_cons (fo_tm fe_str) (fa_cons (fo_tm fe_str) fa_nil))))))) fa_nil)))))
theorem ok__law_run_text (G : Top K mg) : Def P w K mg base "_law_run_text" 3 1 m__law_run_text := by
  obtain ⟨f, fd, hm, F, b⟩ := G.f__law_run_text
  have D__law_draw : Def P w K mg base "_law_draw" 1 2 m__law_draw := ok__law_draw G
  have D__law_pick : Def P w K mg base "_law_pick" 2 2 m__law_pick := ok__law_pick G
  have D__law_run_signs : Def P w K mg base "_law_run_signs" 1 0 m__law_run_signs := ok__law_run_signs G
  have nd := sc__law_run_text.nd
  exact Def.of F hm sc__law_run_text b rfl rfl fun cd A outer s H E hr => (fss_cons (fs_set (i := 1) (fe_bin s_add op_addA (fo_tm fe_int) (fo_tm (fe_def D__law_draw (hr.mono (by decide)) takesB rfl (fa_cons (fo_var (i := 0) rfl (.inr (.inl rfl))) (fa_cons (fo_tm fe_int) fa_nil))))) nd rfl (.inl rfl))
    (fss_cons (fs_if (ft_cmp s_eq (op_eqA hr.units) (fo_tm (fe_def D__law_draw (hr.mono (by decide)) takesB rfl (fa_cons (fo_var (i := 0) rfl (.inr (.inl rfl))) (fa_cons (fo_tm fe_int) fa_nil)))) (fo_tm fe_int) (nomark _))
    (fss_one (fs_set (i := 1) (fe_bin s_add op_addA (fo_tm fe_int) (fo_tm (fe_def D__law_draw (hr.mono (by decide)) takesB rfl (fa_cons (fo_var (i := 0) rfl (.inr (.inl rfl))) (fa_cons (fo_tm fe_int) fa_nil))))) nd rfl (.inl rfl)))
    fss_nil)
    (fss_cons (fs_set (i := 2) (fe_mstr s_join PySem.F.slot_str_join PySem.F.type_str_join mt_join (fo_tm fe_str) (fa_cons (fo_tm (fe_comp (own := [("at", 3)]) (lv := []) rfl nd (fi_range1 rfl G.n_range (fa_cons (fo_tm (fe_callB s_min2 (call_min2 rfl) rfl G.n_min b_min (fa_cons (fo_var (i := 1) rfl (.inl rfl)) (fa_cons (fo_tm fe_int) fa_nil)))) fa_nil)) (blkOk_by (N := N__law_run_text) (sc := defScope s__law_run_text) (by decide +kernel)) (fun _ _ _ _ _ => (fg_name (i := 3) nd rfl (.inl rfl))) (fun _ _ _ _ _ => fts_nil) (fun _ _ _ _ _ => (fe_frz (fe_def D__law_pick (hr.mono (by decide)) takes0 rfl (fa_cons (fo_var (i := 0) rfl (.inr (.inl rfl))) (fa_cons (fo_tm (fe_def0 D__law_run_signs (hr.mono (by decide)) takes0 rfl)) fa_nil))))))) fa_nil)) nd rfl (.inr rfl))
    (fss_one (fs_ret (fe_slice s_sl sl_all (fo_tm (fe_mstr s_join PySem.F.slot_str_join PySem.F.type_str_join mt_join (fo_tm fe_str) (fa_cons (fo_tm (fe_comp (own := [("at", 3)]) (lv := []) rfl nd (fi_range1 rfl G.n_range (fa_cons (fo_tm fe_int) fa_nil)) (blkOk_by (N := N__law_run_text) (sc := defScope s__law_run_text) (by decide +kernel)) (fun _ _ _ _ _ => (fg_name (i := 3) nd rfl (.inl rfl))) (fun _ _ _ _ _ => fts_nil) (fun _ _ _ _ _ => (fe_frz (fe_of (fo_var (i := 2) rfl (.inr (.inl rfl)))))))) fa_nil))) fp_none (fp_some (fo_var (i := 1) rfl (.inl rfl)))))))))
theorem ok__law_piece (G : Top K mg) : Def P w K mg base "_law_piece" 4 1 m__law_piece := by
  obtain ⟨f, fd, hm, F, b⟩ := G.f__law_piece
  have D__law_all_signs : Def P w K mg base "_law_all_signs" 1 0 m__law_all_signs := ok__law_all_signs G
  have D__law_draw : Def P w K mg base "_law_draw" 1 2 m__law_draw := ok__law_draw G
  have D__law_pick : Def P w K mg base "_law_pick" 2 2 m__law_pick := ok__law_pick G
  have D__law_pool : Def P w K mg base "_law_pool" 1 0 m__law_pool := ok__law_pool G
  have D__law_run_text : Def P w K mg base "_law_run_text" 3 1 m__law_run_text := ok__law_run_text G
  have nd := sc__law_piece.nd
  exact Def.of F hm sc__law_piece b rfl rfl fun cd A outer s H E hr => (fss_cons (fs_set (i := 1) (fe_def D__law_draw (hr.mono (by decide)) takesB rfl (fa_cons (fo_var (i := 0) rfl (.inl rfl)) (fa_cons (fo_tm fe_int) fa_nil))) nd rfl (.inl rfl))
    (fss_cons (fs_if (ft_cmp s_eq (op_eqA hr.units) (fo_var (i := 1) rfl (.inl rfl)) (fo_tm fe_int) (nomark _))
    (fss_one (fs_ret (fe_def D__law_pick (hr.mono (by decide)) takesB rfl (fa_cons (fo_var (i := 0) rfl (.inl rfl)) (fa_cons (fo_tm (fe_def0 D__law_pool (hr.mono (by decide)) takesB rfl)) fa_nil)))))
    fss_nil)
    (fss_cons (fs_if (ft_cmp s_eq (op_eqA hr.units) (fo_var (i := 1) rfl (.inl rfl)) (fo_tm fe_int) (nomark _))
    (fss_one (fs_ret (fe_def D__law_pick (hr.mono (by decide)) takesB rfl (fa_cons (fo_var (i := 0) rfl (.inl rfl)) (fa_cons (fo_tm (fe_lst (fa_cons (fo_tm fe_str) (fa_cons (fo_tm fe_str) (fa_cons (fo_tm fe_str) (fa_cons (fo_tm fe_str) (fa_cons (fo_tm fe_str) (fa_cons (fo_tm fe_str) fa_nil)))))))) fa_nil)))))
    fss_nil)
    (fss_cons (fs_if (ft_cmp s_eq (op_eqA hr.units) (fo_var (i := 1) rfl (.inl rfl)) (fo_tm fe_int) (nomark _))
    (fss_one (fs_ret (fe_def D__law_pick (hr.mono (by decide)) takesB rfl (fa_cons (fo_var (i := 0) rfl (.inl rfl)) (fa_cons (fo_tm (fe_lst (fa_cons (fo_tm fe_str) (fa_cons (fo_tm fe_str) (fa_cons (fo_tm fe_str) (fa_cons (fo_tm fe_str) (fa_cons (fo_tm fe_str) (fa_cons (fo_tm fe_str) (fa_cons (fo_tm fe_str) (fa_cons (fo_tm fe_str) (fa_cons (fo_tm fe_str) (fa_cons (fo_tm fe_str) fa_nil)))))))))))) fa_nil)))))
    fss_nil)
    (fss_cons (fs_if (ft_cmp s_eq (op_eqA hr.units) (fo_var (i := 1) rfl (.inl rfl)) (fo_tm fe_int) (nomark _))
    (fss_one (fs_ret (fe_def D__law_pick (hr.mono (by decide)) takesB rfl (fa_cons (fo_var (i := 0) rfl (.inl rfl)) (fa_cons (fo_tm (fe_def0 D__law_all_signs (hr.mono (by decide)) takesB rfl)) fa_nil)))))
    fss_nil)
    (fss_cons (fs_if (ft_cmp s_eq (op_eqA hr.units) (fo_var (i := 1) rfl (.inl rfl)) (fo_tm fe_int) (nomark _))
    (fss_one (fs_ret (fe_callTy s_strI call_str_int rfl G.n_str b_str (fa_cons (fo_tm (fe_def D__law_draw (hr.mono (by decide)) takesB rfl (fa_cons (fo_var (i := 0) rfl (.inl rfl)) (fa_cons (fo_tm fe_int) fa_nil)))) fa_nil))))
    fss_nil)
    (fss_one (fs_ret (fe_def D__law_run_text (hr.mono (by decide)) takesB rfl (fa_cons (fo_var (i := 0) rfl (.inl rfl)) fa_nil))))))))))
theorem ok__law_some_text (G : Top K mg) : Def P w K mg base "_law_some_text" 5 1 m__law_some_text := by
  obtain ⟨f, fd, hm, F, b⟩ := G.f__law_some_text
  have D__law_all_signs : Def P w K mg base "_law_all_signs" 1 0 m__law_all_signs := ok__law_all_signs G
  have D__law_draw : Def P w K mg base "_law_draw" 1 2 m__law_draw := ok__law_draw G
  have D__law_gap : Def P w K mg base "_law_gap" 3 1 m__law_gap := ok__law_gap G
  have D__law_pick : Def P w K mg base "_law_pick" 2 2 m__law_pick := ok__law_pick G
  have D__law_piece : Def P w K mg base "_law_piece" 4 1 m__law_piece := ok__law_piece G
  have nd := sc__law_some_text.nd
  exact Def.of F hm sc__law_some_text b rfl rfl fun cd A outer s H E hr => (fss_cons (fs_set (i := 1) (fe_def D__law_draw (hr.mono (by decide)) takesB rfl (fa_cons (fo_var (i := 0) rfl (.inr (.inl rfl))) (fa_cons (fo_tm fe_int) fa_nil))) nd rfl (.inl rfl))
    (fss_cons (fs_if (ft_cmp s_lt op_lt (fo_var (i := 1) rfl (.inl rfl)) (fo_tm fe_int) (nomark _))
    (fss_cons (fs_set (i := 2) (fe_def0 D__law_all_signs (hr.mono (by decide)) takesB rfl) nd rfl (.inr rfl))
    (fss_one (fs_ret (fe_mstr s_join PySem.F.slot_str_join PySem.F.type_str_join mt_join (fo_tm fe_str) (fa_cons (fo_tm (fe_comp (own := [("at", 5)]) (lv := []) rfl nd (fi_range1 rfl G.n_range (fa_cons (fo_tm (fe_def D__law_draw (hr.mono (by decide)) takesB rfl (fa_cons (fo_var (i := 0) rfl (.inr (.inl rfl))) (fa_cons (fo_tm fe_int) fa_nil)))) fa_nil)) (blkOk_by (N := N__law_some_text) (sc := defScope s__law_some_text) (by decide +kernel)) (fun _ _ _ _ _ => (fg_name (i := 5) nd rfl (.inl rfl))) (fun _ _ _ _ _ => fts_nil) (fun _ _ _ _ _ => (fe_frz (fe_def D__law_pick (hr.mono (by decide)) takes0 rfl (fa_cons (fo_var (i := 0) rfl (.inr (.inl rfl))) (fa_cons (fo_var (i := 2) rfl (.inr (.inl rfl))) fa_nil))))))) fa_nil)))))
    fss_nil)
    (fss_cons (fs_if (ft_cmp s_lt op_lt (fo_var (i := 1) rfl (.inl rfl)) (fo_tm fe_int) (nomark _))
    (fss_cons (fs_set (i := 3) (fe_lst (fa_cons (fo_tm fe_str) (fa_cons (fo_tm fe_str) (fa_cons (fo_tm fe_str) (fa_cons (fo_tm fe_str) (fa_cons (fo_tm fe_str) (fa_cons (fo_tm fe_str) (fa_cons (fo_tm fe_str) (fa_cons (fo_tm fe_str) (fa_cons (fo_tm fe_str) (fa_cons (fo_tm fe_str) (fa_cons (fo_tm fe_str) (fa_cons (fo_tm fe_str) (fa_cons (fo_tm fe_str) (fa_cons (fo_tm fe_str) (fa_cons (fo_tm fe_str) (fa_cons (fo_tm fe_str) (fa_cons (fo_tm fe_str) (fa_cons (fo_tm fe_str) fa_nil))))))))))))))))))) nd rfl (.inr rfl))
    (fss_one (fs_ret (fe_mstr s_join PySem.F.slot_str_join PySem.F.type_str_join mt_join (fo_tm fe_str) (fa_cons (fo_tm (fe_comp (own := [("at", 5)]) (lv := []) rfl nd (fi_range1 rfl G.n_range (fa_cons (fo_tm (fe_def D__law_draw (hr.mono (by decide)) takesB rfl (fa_cons (fo_var (i := 0) rfl (.inr (.inl rfl))) (fa_cons (fo_tm fe_int) fa_nil)))) fa_nil)) (blkOk_by (N := N__law_some_text) (sc := defScope s__law_some_text) (by decide +kernel)) (fun _ _ _ _ _ => (fg_name (i := 5) nd rfl (.inl rfl))) (fun _ _ _ _ _ => fts_nil) (fun _ _ _ _ _ => (fe_frz (fe_def D__law_pick (hr.mono (by decide)) takes0 rfl (fa_cons (fo_var (i := 0) rfl (.inr (.inl rfl))) (fa_cons (fo_var (i := 3) rfl (.inr (.inl rfl))) fa_nil))))))) fa_nil)))))
    fss_nil)
    (fss_cons (fs_set (i := 4) (fe_def D__law_gap (hr.mono (by decide)) takesB rfl (fa_cons (fo_var (i := 0) rfl (.inr (.inl rfl))) fa_nil)) nd rfl (.inl rfl))
    (fss_cons (fs_for (lv := []) passB rfl (fi_range1 rfl G.n_range (fa_cons (fo_tm (fe_def D__law_draw (hr.mono (by decide)) takesB rfl (fa_cons (fo_var (i := 0) rfl (.inr (.inl rfl))) (fa_cons (fo_tm fe_int) fa_nil)))) fa_nil)) (fg_name (i := 5) nd rfl (.inl rfl))
    (fss_one (fs_set (i := 4) (fe_bin s_add op_addA (fo_tm (fe_bin s_add op_addA (fo_var (i := 4) rfl (.inl rfl)) (fo_tm (fe_def D__law_piece (hr.mono (by decide)) takesB rfl (fa_cons (fo_var (i := 0) rfl (.inr (.inl rfl))) fa_nil))))) (fo_tm (fe_def D__law_gap (hr.mono (by decide)) takesB rfl (fa_cons (fo_var (i := 0) rfl (.inr (.inl rfl))) fa_nil)))) nd rfl (.inl rfl))))
    (fss_cons (fs_if (ft_cmp s_eq (op_eqA hr.units) (fo_var (i := 1) rfl (.inl rfl)) (fo_tm fe_int) (nomark _))
    (fss_cons (fs_set (i := 6) (fe_of (fo_var (i := 4) rfl (.inl rfl))) nd rfl (.inr rfl))
    (fss_one (fs_set (i := 4) (fe_mstr s_join PySem.F.slot_str_join PySem.F.type_str_join mt_join (fo_tm fe_str) (fa_cons (fo_tm (fe_comp (own := [("at", 5)]) (lv := []) rfl nd (fi_range1 rfl G.n_range (fa_cons (fo_tm (fe_bin s_add op_addA (fo_tm fe_int) (fo_tm (fe_def D__law_draw (hr.mono (by decide)) takesB rfl (fa_cons (fo_var (i := 0) rfl (.inr (.inl rfl))) (fa_cons (fo_tm fe_int) fa_nil)))))) fa_nil)) (blkOk_by (N := N__law_some_text) (sc := defScope s__law_some_text) (by decide +kernel)) (fun _ _ _ _ _ => (fg_name (i := 5) nd rfl (.inl rfl))) (fun _ _ _ _ _ => fts_nil) (fun _ _ _ _ _ => (fe_frz (fe_of (fo_var (i := 6) rfl (.inr (.inl rfl)))))))) fa_nil)) nd rfl (.inl rfl))))
    fss_nil)
    (fss_one (fs_ret (fe_slice s_sl sl_all (fo_var (i := 4) rfl (.inl rfl)) fp_none (fp_some (fo_tm fe_int)))))))))))
theorem ok__law_spread (G : Top K mg) : Def P w K mg base "_law_spread" 4 2 m__law_spread := by
  obtain ⟨f, fd, hm, F, b⟩ := G.f__law_spread
  have D__law_gap : Def P w K mg base "_law_gap" 3 1 m__law_gap := ok__law_gap G
  have D__law_wide_gap : Def P w K mg base "_law_wide_gap" 3 1 m__law_wide_gap := ok__law_wide_gap G
  have nd := sc__law_spread.nd
  exact Def.of F hm sc__law_spread b rfl rfl fun cd A outer s H E hr => (fss_cons (fs_set (i := 2) (fe_def D__law_gap (hr.mono (by decide)) takesB rfl (fa_cons (fo_var (i := 0) rfl (.inl rfl)) fa_nil)) nd rfl (.inl rfl))
    (fss_cons (fs_for (lv := [1]) passB rfl (fi_seq (lv := [1]) (fo_var (i := 1) rfl (.inl rfl))) (fg_name (i := 3) nd rfl (.inl rfl))
    (fss_one (fs_set (i := 2) (fe_bin s_add op_addA (fo_tm (fe_bin s_add op_addA (fo_var (i := 2) rfl (.inl rfl)) (fo_var (i := 3) rfl (.inl rfl)))) (fo_tm (fe_def D__law_wide_gap (hr.mono (by decide)) takesB rfl (fa_cons (fo_var (i := 0) rfl (.inl rfl)) fa_nil)))) nd rfl (.inl rfl))))
    (fss_one (fs_ret (fe_of (fo_var (i := 2) rfl (.inl rfl)))))))
theorem ok_law (G : Top K mg) : Def P w K mg base "law" 6 1 m_law := by
  obtain ⟨f, fd, hm, F, b⟩ := G.f_law
  have D__law_begin : Def P w K mg base "_law_begin" 1 1 m__law_begin := ok__law_begin G
  have D__law_own_tokens : Def P w K mg base "_law_own_tokens" 3 2 m__law_own_tokens := ok__law_own_tokens G
  have D__law_pick : Def P w K mg base "_law_pick" 2 2 m__law_pick := ok__law_pick G
  have D__law_some_text : Def P w K mg base "_law_some_text" 5 1 m__law_some_text := ok__law_some_text G
  have D__law_split_right : Def P w K mg base "_law_split_right" 4 1 m__law_split_right := ok__law_split_right G
  have D__law_spread : Def P w K mg base "_law_spread" 4 2 m__law_spread := ok__law_spread G
  have D__law_wide_gap : Def P w K mg base "_law_wide_gap" 3 1 m__law_wide_gap := ok__law_wide_gap G
  have nd := sc_law.nd
  exact Def.of F hm sc_law b rfl rfl fun cd A outer s H E hr => (fss_cons (fs_set (i := 1) (fe_def D__law_begin (hr.mono (by decide)) takesB rfl (fa_cons (fo_var (i := 0) rfl (.inl rfl)) fa_nil)) nd rfl (.inl rfl))
    (fss_cons (fs_set (i := 2) (fe_def D__law_some_text (hr.mono (by decide)) takesB rfl (fa_cons (fo_var (i := 1) rfl (.inl rfl)) fa_nil)) nd rfl (.inl rfl))
    (fss_cons (fs_set (i := 3) (fe_def D__law_some_text (hr.mono (by decide)) takesB rfl (fa_cons (fo_var (i := 1) rfl (.inl rfl)) fa_nil)) nd rfl (.inl rfl))
    (fss_cons (fs_set (i := 4) (fe_lst (fa_cons (fo_tm (fe_frz (fe_of (fo_var (i := 2) rfl (.inl rfl))))) (fa_cons (fo_tm (fe_frz (fe_of (fo_var (i := 3) rfl (.inl rfl))))) (fa_cons (fo_tm (fe_frz (fe_bin s_add op_addA (fo_tm (fe_bin s_add op_addA (fo_var (i := 2) rfl (.inl rfl)) (fo_tm (fe_def D__law_wide_gap (hr.mono (by decide)) takesB rfl (fa_cons (fo_var (i := 1) rfl (.inl rfl)) fa_nil))))) (fo_var (i := 3) rfl (.inl rfl))))) (fa_cons (fo_tm (fe_frz (fe_bin s_add op_addA (fo_var (i := 2) rfl (.inl rfl)) (fo_var (i := 3) rfl (.inl rfl))))) (fa_cons (fo_tm fe_str) fa_nil)))))) nd rfl (.inl rfl))
    (fss_cons (fs_for (lv := []) passB rfl (fi_seq (lv := []) (fo_tm (fe_lst (fa_cons (fo_tm fe_bl) (fa_cons (fo_tm fe_bl) fa_nil))))) (fg_name (i := 5) nd rfl (.inl rfl))
    (fss_cons (fs_set (i := 6) (fe_def D__law_own_tokens (hr.mono (by decide)) takesB rfl (fa_cons (fo_var (i := 2) rfl (.inl rfl)) (fa_cons (fo_var (i := 5) rfl (.inl rfl)) fa_nil))) nd rfl (.inl rfl))
    (fss_cons (fs_expr (fe_mut (i := 4) s_append PySem.F.slot_list_append PySem.F.type_list_append mt_append rfl (.inl rfl) (fa_cons (fo_tm (fe_frz (fe_def D__law_spread (hr.mono (by decide)) takesB rfl (fa_cons (fo_var (i := 1) rfl (.inl rfl)) (fa_cons (fo_var (i := 6) rfl (.inl rfl)) fa_nil))))) fa_nil)))
    (fss_one (fs_if (ft_cmp s_gt op_gt (fo_tm (fe_callB s_len call_lenA rfl G.n_len b_len (fa_cons (fo_var (i := 6) rfl (.inl rfl)) fa_nil))) (fo_tm fe_int) (nomark _))
    (fss_one (fs_expr (fe_mut (i := 4) s_append PySem.F.slot_list_append PySem.F.type_list_append mt_append rfl (.inl rfl) (fa_cons (fo_tm (fe_frz (fe_def D__law_pick (hr.mono (by decide)) takesB rfl (fa_cons (fo_var (i := 1) rfl (.inl rfl)) (fa_cons (fo_var (i := 6) rfl (.inl rfl)) fa_nil))))) fa_nil))))
    fss_nil)))))
    (fss_cons (fs_expr (fe_mut (i := 4) s_append PySem.F.slot_list_append PySem.F.type_list_append mt_append rfl (.inl rfl) (fa_cons (fo_tm (fe_frz (fe_of (fo_var (i := 2) rfl (.inl rfl))))) fa_nil)))
    (fss_one (fs_ret (fe_callB s_all (cr_all rfl) rfl G.n_all b_all (fa_cons (fo_tm (fe_comp (own := [("one", 7)]) (lv := [4]) rfl nd (fi_seq (lv := [4]) (fo_var (i := 4) rfl (.inl rfl))) (blkOk_by (N := N_law) (sc := defScope s_law) (by decide +kernel)) (fun _ _ _ _ _ => (fg_name (i := 7) nd rfl (.inl rfl))) (fun _ _ _ _ _ => fts_nil) (fun _ _ _ _ _ => (fe_frz (fe_def D__law_split_right (hr.mono (by decide)) takes0 rfl (fa_cons (fo_var (i := 7) rfl (.inl rfl)) fa_nil)))))) fa_nil))))))))))
theorem ok_law_fn (G : Top K mg) (f : Addr) (fd : FuncData) (hm : mg "law" = some (.ref f)) (F : Fun K "law" "law" s_law f fd) : FnOk P w K mg base (L2.CX P w) 6 f fd ["script"] (spF K mg 1 m_law) := by
  have D__law_begin : Def P w K mg base "_law_begin" 1 1 m__law_begin := ok__law_begin G
  have D__law_own_tokens : Def P w K mg base "_law_own_tokens" 3 2 m__law_own_tokens := ok__law_own_tokens G
  have D__law_pick : Def P w K mg base "_law_pick" 2 2 m__law_pick := ok__law_pick G
  have D__law_some_text : Def P w K mg base "_law_some_text" 5 1 m__law_some_text := ok__law_some_text G
  have D__law_split_right : Def P w K mg base "_law_split_right" 4 1 m__law_split_right := ok__law_split_right G
  have D__law_spread : Def P w K mg base "_law_spread" 4 2 m__law_spread := ok__law_spread G
  have D__law_wide_gap : Def P w K mg base "_law_wide_gap" 3 1 m__law_wide_gap := ok__law_wide_gap G
  have nd := sc_law.nd
  exact fnOk_of F sc_law rfl rfl fun cd A outer s H E hr => (fss_cons (fs_set (i := 1) (fe_def D__law_begin (hr.mono (by decide)) takesB rfl (fa_cons (fo_var (i := 0) rfl (.inl rfl)) fa_nil)) nd rfl (.inl rfl))
    (fss_cons (fs_set (i := 2) (fe_def D__law_some_text (hr.mono (by decide)) takesB rfl (fa_cons (fo_var (i := 1) rfl (.inl rfl)) fa_nil)) nd rfl (.inl rfl))
    (fss_cons (fs_set (i := 3) (fe_def D__law_some_text (hr.mono (by decide)) takesB rfl (fa_cons (fo_var (i := 1) rfl (.inl rfl)) fa_nil)) nd rfl (.inl rfl))
    (fss_cons (fs_set (i := 4) (fe_lst (fa_cons (fo_tm (fe_frz (fe_of (fo_var (i := 2) rfl (.inl rfl))))) (fa_cons (fo_tm (fe_frz (fe_of (fo_var (i := 3) rfl (.inl rfl))))) (fa_cons (fo_tm (fe_frz (fe_bin s_add op_addA (fo_tm (fe_bin s_add op_addA (fo_var (i := 2) rfl (.inl rfl)) (fo_tm (fe_def D__law_wide_gap (hr.mono (by decide)) takesB rfl (fa_cons (fo_var (i := 1) rfl (.inl rfl)) fa_nil))))) (fo_var (i := 3) rfl (.inl rfl))))) (fa_cons (fo_tm (fe_frz (fe_bin s_add op_addA (fo_var (i := 2) rfl (.inl rfl)) (fo_var (i := 3) rfl (.inl rfl))))) (fa_cons (fo_tm fe_str) fa_nil)))))) nd rfl (.inl rfl))
    (fss_cons (fs_for (lv := []) passB rfl (fi_seq (lv := []) (fo_tm (fe_lst (fa_cons (fo_tm fe_bl) (fa_cons (fo_tm fe_bl) fa_nil))))) (fg_name (i := 5) nd rfl (.inl rfl))
    (fss_cons (fs_set (i := 6) (fe_def D__law_own_tokens (hr.mono (by decide)) takesB rfl (fa_cons (fo_var (i := 2) rfl (.inl rfl)) (fa_cons (fo_var (i := 5) rfl (.inl rfl)) fa_nil))) nd rfl (.inl rfl))
    (fss_cons (fs_expr (fe_mut (i := 4) s_append PySem.F.slot_list_append PySem.F.type_list_append mt_append rfl (.inl rfl) (fa_cons (fo_tm (fe_frz (fe_def D__law_spread (hr.mono (by decide)) takesB rfl (fa_cons (fo_var (i := 1) rfl (.inl rfl)) (fa_cons (fo_var (i := 6) rfl (.inl rfl)) fa_nil))))) fa_nil)))
    (fss_one (fs_if (ft_cmp s_gt op_gt (fo_tm (fe_callB s_len call_lenA rfl G.n_len b_len (fa_cons (fo_var (i := 6) rfl (.inl rfl)) fa_nil))) (fo_tm fe_int) (nomark _))
    (fss_one (fs_expr (fe_mut (i := 4) s_append PySem.F.slot_list_append PySem.F.type_list_append mt_append rfl (.inl rfl) (fa_cons (fo_tm (fe_frz (fe_def D__law_pick (hr.mono (by decide)) takesB rfl (fa_cons (fo_var (i := 1) rfl (.inl rfl)) (fa_cons (fo_var (i := 6) rfl (.inl rfl)) fa_nil))))) fa_nil))))
    fss_nil)))))
    (fss_cons (fs_expr (fe_mut (i := 4) s_append PySem.F.slot_list_append PySem.F.type_list_append mt_append rfl (.inl rfl) (fa_cons (fo_tm (fe_frz (fe_of (fo_var (i := 2) rfl (.inl rfl))))) fa_nil)))
    (fss_one (fs_ret (fe_callB s_all (cr_all rfl) rfl G.n_all b_all (fa_cons (fo_tm (fe_comp (own := [("one", 7)]) (lv := [4]) rfl nd (fi_seq (lv := [4]) (fo_var (i := 4) rfl (.inl rfl))) (blkOk_by (N := N_law) (sc := defScope s_law) (by decide +kernel)) (fun _ _ _ _ _ => (fg_name (i := 7) nd rfl (.inl rfl))) (fun _ _ _ _ _ => fts_nil) (fun _ _ _ _ _ => (fe_frz (fe_def D__law_split_right (hr.mono (by decide)) takes0 rfl (fa_cons (fo_var (i := 7) rfl (.inl rfl)) fa_nil)))))) fa_nil))))))))))
end
end FL
/-! FLS: the programs over trees, reckoned by simp -/
namespace FL
open PySem PySem.Spec L2
section
variable {α β γ : Type}
@[simp] theorem pure_e (a : α) (ρ : List T) : M.pure a ρ = some (.ok a ρ) := id rfl
/-- what follows a step -/
def bindK (x : Option (Res α)) (g : α → M β) : Option (Res β) := match x with
  | some (.ok a ρ') => g a ρ'
  | some (.exc e ρ') => some (.exc e ρ')
  | none => none
@[simp] theorem bind_e (f : M α) (g : α → M β) (ρ : List T) : M.bind f g ρ = bindK (f ρ) g := id rfl
@[simp] theorem bindK_ok (a : α) (ρ : List T) (g : α → M β) : bindK (some (.ok a ρ)) g = g a ρ := id rfl
@[simp] theorem bindK_exc (e : T) (ρ : List T) (g : α → M β) : bindK (some (.exc e ρ)) g = some (.exc e ρ) := id rfl
@[simp] theorem bindK_none (g : α → M β) : bindK none g = none := id rfl
@[simp] theorem bindK_ite {c : Prop} [Decidable c] (x y : Option (Res α)) (g : α → M β) : bindK (if c then x else y) g = if c then bindK x g else bindK y g := by split <;> rfl
@[simp] theorem ite_app {c : Prop} [Decidable c] (f g : α → β) (x : α) : (if c then f else g) x = if c then f x else g x := by split <;> rfl
def okK (x : Option T) (ρ : List T) : Option (Res T) := x.map fun t => .ok t ρ
@[simp] theorem okK_some (t : T) (ρ : List T) : okK (some t) ρ = some (.ok t ρ) := id rfl
@[simp] theorem okK_none (ρ : List T) : okK none ρ = none := id rfl
@[simp] theorem okK_ite {c : Prop} [Decidable c] (x y : Option T) (ρ : List T) : okK (if c then x else y) ρ = if c then okK x ρ else okK y ρ := by split <;> rfl
def seqK (x : Option (Res Fl)) (g : M Fl) : Option (Res Fl) := match x with
  | some (.ok .nx ρ') => g ρ'
  | x => x
@[simp] theorem seqK_nx (ρ : List T) (g : M Fl) : seqK (some (.ok .nx ρ)) g = g ρ := id rfl
@[simp] theorem seqK_rt (t : T) (ρ : List T) (g : M Fl) : seqK (some (.ok (.rt t) ρ)) g = some (.ok (.rt t) ρ) := id rfl
@[simp] theorem seqK_bk (ρ : List T) (g : M Fl) : seqK (some (.ok .bk ρ)) g = some (.ok .bk ρ) := id rfl
@[simp] theorem seqK_ct (ρ : List T) (g : M Fl) : seqK (some (.ok .ct ρ)) g = some (.ok .ct ρ) := id rfl
@[simp] theorem seqK_exc (e : T) (ρ : List T) (g : M Fl) : seqK (some (.exc e ρ)) g = some (.exc e ρ) := id rfl
@[simp] theorem seqK_none (g : M Fl) : seqK none g = none := id rfl
@[simp] theorem seqK_ite {c : Prop} [Decidable c] (x y : Option (Res Fl)) (g : M Fl) : seqK (if c then x else y) g = if c then seqK x g else seqK y g := by split <;> rfl
/-- a def's end -/
def bodyK (pr : Nat → Bool) (ts : List T) (x : Option (Res Fl)) : Option (Res T) := match x with
  | some (.ok (.rt t) ρ') => some (.ok t (copyOut pr 0 ts ρ'))
  | some (.ok .nx ρ') => some (.ok .non (copyOut pr 0 ts ρ'))
  | some (.exc e ρ') => some (.exc e (copyOut pr 0 ts ρ'))
  | _ => none
@[simp] theorem bodyK_rt (pr : Nat → Bool) (ts : List T) (t : T) (ρ : List T) : bodyK pr ts (some (.ok (.rt t) ρ)) = some (.ok t (copyOut pr 0 ts ρ)) := id rfl
@[simp] theorem bodyK_nx (pr : Nat → Bool) (ts : List T) (ρ : List T) : bodyK pr ts (some (.ok .nx ρ)) = some (.ok .non (copyOut pr 0 ts ρ)) := id rfl
@[simp] theorem bodyK_exc (pr : Nat → Bool) (ts : List T) (t : T) (ρ : List T) : bodyK pr ts (some (.exc t ρ)) = some (.exc t (copyOut pr 0 ts ρ)) := id rfl
@[simp] theorem bodyK_none (pr : Nat → Bool) (ts : List T) : bodyK pr ts none = none := id rfl
@[simp] theorem bodyK_ite {c : Prop} [Decidable c] (pr : Nat → Bool) (ts : List T) (x y : Option (Res Fl)) : bodyK pr ts (if c then x else y) = if c then bodyK pr ts x else bodyK pr ts y := by split <;> rfl
/-- behind a call -/
def callK (hs : List Hd) (ts ρ1 : List T) (x : Option (Res T)) : Option (Res T) := match x with
  | some (.ok t ts') => (putBack hs ts ts' ρ1).map fun ρ2 => .ok t ρ2
  | some (.exc e ts') => (putBack hs ts ts' ρ1).map fun ρ2 => .exc e ρ2
  | none => none
@[simp] theorem callK_ok (hs : List Hd) (ts ts' ρ1 : List T) (t : T) : callK hs ts ρ1 (some (.ok t ts')) = (putBack hs ts ts' ρ1).map fun ρ2 => .ok t ρ2 := id rfl
@[simp] theorem callK_exc (hs : List Hd) (ts ts' ρ1 : List T) (t : T) : callK hs ts ρ1 (some (.exc t ts')) = (putBack hs ts ts' ρ1).map fun ρ2 => .exc t ρ2 := id rfl
@[simp] theorem callK_none (hs : List Hd) (ts ρ1 : List T) : callK hs ts ρ1 none = none := id rfl
@[simp] theorem callK_ite {c : Prop} [Decidable c] (hs : List Hd) (ts ρ1 : List T) (x y : Option (Res T)) : callK hs ts ρ1 (if c then x else y) = if c then callK hs ts ρ1 x else callK hs ts ρ1 y := by split <;> rfl
@[simp] theorem seq_e (f : M α) (g : M β) (ρ : List T) : M.seq f g ρ = M.bind f (fun a => g.bind fun b => M.pure (a, b)) ρ := id rfl
@[simp] theorem fC_e (t : T) (ρ : List T) : fC t ρ = some (.ok t ρ) := id rfl
@[simp] theorem oVar_e (i : Nat) (ρ : List T) : oVar i ρ = if isU (ρ.getD i .unb) = true then none else some (.ok (.pl i) ρ) := id rfl
@[simp] theorem oTm_e (f : M T) (ρ : List T) : oTm f ρ = M.bind f (fun t => M.pure (.tm t)) ρ := id rfl
@[simp] theorem res_pl (ρ : List T) (i : Nat) : res ρ (.pl i) = ρ.getD i .unb := id rfl
@[simp] theorem res_tm (ρ : List T) (t : T) : res ρ (.tm t) = t := id rfl
@[simp] theorem fOf_e (o : M Hd) (ρ : List T) : fOf o ρ = M.bind o takeH ρ := id rfl
@[simp] theorem takeH_tm (t : T) (ρ : List T) : takeH (.tm t) ρ = some (.ok t ρ) := id rfl
@[simp] theorem takeH_pl (i : Nat) (ρ : List T) : takeH (.pl i) ρ = if isU (ρ.getD i .unb) = true then none else if pureT (ρ.getD i .unb) = true then some (.ok (ρ.getD i .unb) ρ) else some (.ok (ρ.getD i .unb) (ρ.set i .unb)) := id rfl
@[simp] theorem fOp2_e (g : T → T → Option T) (a b : M Hd) (ρ : List T) : fOp2 g a b ρ = M.bind (a.seq b) (opM g) ρ := id rfl
@[simp] theorem opM_e (g : T → T → Option T) (p : Hd × Hd) (ρ : List T) : opM g p ρ = if isU (res ρ p.1) = true then none else if isU (res ρ p.2) = true then none else okK (g (res ρ p.1) (res ρ p.2)) ρ := id rfl
@[simp] theorem fOp1_e (g : T → Option T) (a : M Hd) (ρ : List T) : fOp1 g a ρ = M.bind a (unM g) ρ := id rfl
@[simp] theorem unM_e (g : T → Option T) (p : Hd) (ρ : List T) : unM g p ρ = if isU (res ρ p) = true then none else okK (g (res ρ p)) ρ := id rfl
@[simp] theorem aNil_e (ρ : List T) : aNil ρ = some (.ok [] ρ) := id rfl
@[simp] theorem aCons_e (o : M Hd) (r : M (List Hd)) (ρ : List T) : aCons o r ρ = M.bind (o.seq r) (fun p => M.pure (p.1 :: p.2)) ρ := id rfl
@[simp] theorem resL_nil (ρ : List T) : resL ρ [] = some [] := id rfl
@[simp] theorem resL_cons (ρ : List T) (h : Hd) (hs : List Hd) : resL ρ (h :: hs) = if isU (res ρ h) = true then none else (resL ρ hs).map fun ts => res ρ h :: ts := id rfl
@[simp] theorem fCall_e (g : List T → Option T) (a : M (List Hd)) (ρ : List T) : fCall g a ρ = M.bind a (callM g) ρ := id rfl
@[simp] theorem callM_e (g : List T → Option T) (hs : List Hd) (ρ : List T) : callM g hs ρ = match resL ρ hs with
  | none => none
  | some ts => okK (g ts) ρ := rfl
@[simp] theorem isU_unb : isU .unb = true := id rfl
@[simp] theorem isU_non : isU .non = false := id rfl
@[simp] theorem isU_bl (b : Bool) : isU (.bl b) = false := id rfl
@[simp] theorem isU_int (b : Int) : isU (.int b) = false := id rfl
@[simp] theorem isU_str (b : Str) : isU (.str b) = false := id rfl
@[simp] theorem isU_tup (b : List T) : isU (.tup b) = false := id rfl
@[simp] theorem isU_fro (b : List T) : isU (.fro b) = false := id rfl
@[simp] theorem isU_scr (b : List T) : isU (.scr b) = false := id rfl
@[simp] theorem isU_lst (b : List T) : isU (.lst b) = false := id rfl
@[simp] theorem isU_dK (b : List (Key × T)) : isU (.dK b) = false := id rfl
@[simp] theorem isU_dT (b : List (List Key × T)) : isU (.dT b) = false := id rfl
@[simp] theorem isU_ins (c : Str) (b : List (Str × T)) : isU (.ins c b) = false := id rfl
@[simp] theorem pureT_unb : pureT .unb = false := id rfl
@[simp] theorem pureT_non : pureT .non = true := id rfl
@[simp] theorem pureT_bl (b : Bool) : pureT (.bl b) = true := id rfl
@[simp] theorem pureT_int (b : Int) : pureT (.int b) = true := id rfl
@[simp] theorem pureT_str (b : Str) : pureT (.str b) = true := id rfl
@[simp] theorem pureT_tup (b : List T) : pureT (.tup b) = true := id rfl
@[simp] theorem pureT_fro (b : List T) : pureT (.fro b) = true := id rfl
@[simp] theorem pureT_scr (b : List T) : pureT (.scr b) = true := id rfl
@[simp] theorem pureT_lst (b : List T) : pureT (.lst b) = false := id rfl
@[simp] theorem pureT_dK (b : List (Key × T)) : pureT (.dK b) = false := id rfl
@[simp] theorem pureT_dT (b : List (List Key × T)) : pureT (.dT b) = false := id rfl
@[simp] theorem pureT_ins (c : Str) (b : List (Str × T)) : pureT (.ins c b) = false := id rfl
@[simp] theorem isLst_lst (b : List T) : isLst (.lst b) = true := id rfl
@[simp] theorem fTest_e (f : M T) (ρ : List T) : fTest f ρ = M.bind f asB ρ := id rfl
@[simp] theorem asB_e (b : Bool) (ρ : List T) : asB (.bl b) ρ = some (.ok b ρ) := id rfl
@[simp] theorem mIf_e (c : M Bool) (f g : M α) (ρ : List T) : mIf c f g ρ = M.bind c (fun b => if b = true then f else g) ρ := id rfl
@[simp] theorem mAnd_e (c d : M Bool) (ρ : List T) : mAnd c d ρ = M.bind c (fun b => if b = true then d else M.pure false) ρ := id rfl
@[simp] theorem mOr_e (c d : M Bool) (ρ : List T) : mOr c d ρ = M.bind c (fun b => if b = true then M.pure true else d) ρ := id rfl
@[simp] theorem mNot_e (c : M Bool) (ρ : List T) : mNot c ρ = M.bind c (fun b => M.pure (!b)) ρ := id rfl
@[simp] theorem vAnd_e (c d : M T) (ρ : List T) : vAnd c d ρ = M.bind (fTest c) (fun b => if b = true then d else M.pure (.bl false)) ρ := id rfl
@[simp] theorem vOr_e (c d : M T) (ρ : List T) : vOr c d ρ = M.bind (fTest c) (fun b => if b = true then M.pure (.bl true) else d) ρ := id rfl
@[simp] theorem vNot_e (c : M T) (ρ : List T) : vNot c ρ = M.bind (fTest c) (fun b => M.pure (.bl !b)) ρ := id rfl
@[simp] theorem fSeq_e (f g : M Fl) (ρ : List T) : fSeq f g ρ = seqK (f ρ) g := by
  unfold fSeq M.bind seqK
  cases f ρ with
  | none => rfl
  | some r =>
    cases r with
    | exc e ρ' => rfl
    | ok a ρ' => cases a <;> rfl
@[simp] theorem sNx_e (ρ : List T) : sNx ρ = some (.ok .nx ρ) := id rfl
@[simp] theorem sRet_e (f : M T) (ρ : List T) : sRet f ρ = M.bind f (fun t => M.pure (.rt t)) ρ := id rfl
@[simp] theorem sRetN_e (ρ : List T) : sRetN ρ = some (.ok (.rt .non) ρ) := id rfl
@[simp] theorem sDrop_e (f : M T) (ρ : List T) : sDrop f ρ = M.bind f (fun _ => M.pure .nx) ρ := id rfl
@[simp] theorem sSet_e (i : Nat) (f : M T) (ρ : List T) : sSet i f ρ = M.bind f (putS i) ρ := id rfl
@[simp] theorem putS_e (i : Nat) (t : T) (ρ : List T) : putS i t ρ = if i < ρ.length then some (.ok .nx (ρ.set i t)) else none := id rfl
@[simp] theorem sAug_e (i : Nat) (g : T → T → Option T) (f : M Hd) (ρ : List T) : sAug i g f ρ = if pureT (ρ.getD i .unb) = true then (f.bind (augM i g (ρ.getD i .unb))) ρ else none := id rfl
@[simp] theorem augM_e (i : Nat) (g : T → T → Option T) (a : T) (t : Hd) (ρ : List T) : augM i g a t ρ = if isU (res ρ t) = true then none else (g a (res ρ t)).bind fun z => if i < ρ.length then some (.ok .nx (ρ.set i z)) else none := id rfl
@[simp] theorem gSet_e (i : Nat) (t : T) (ρ : List T) : gSet i t ρ = if i < ρ.length then some (.ok () (ρ.set i t)) else none := id rfl
@[simp] theorem gsNil_e (ρ : List T) : gsNil [] ρ = some (.ok () ρ) := id rfl
@[simp] theorem gsCons_e (g : T → M Unit) (r : List T → M Unit) (t : T) (ts : List T) (ρ : List T) : gsCons g r (t :: ts) ρ = M.bind (g t) (fun _ => r ts) ρ := id rfl
@[simp] theorem gTup_e (n : Nat) (r : List T → M Unit) (ts ρ : List T) : gTup n r (.tup ts) ρ = if ts.length = n then r ts ρ else none := id rfl
@[simp] theorem pNo_e (ρ : List T) : pNo ρ = some (.ok none ρ) := id rfl
@[simp] theorem pSo_e (o : M Hd) (ρ : List T) : pSo o ρ = M.bind o prtM ρ := id rfl
@[simp] theorem prtM_e (h : Hd) (ρ : List T) : prtM h ρ = match res ρ h with
  | .int i => some (.ok (some i) ρ)
  | _ => none := id rfl
@[simp] theorem fSl_e (g : T → Option Int → Option Int → Option T) (o : M Hd) (l u : M (Option Int)) (ρ : List T) : fSl g o l u ρ = M.bind (o.seq (l.seq u)) (slM g) ρ := id rfl
@[simp] theorem slM_e (g : T → Option Int → Option Int → Option T) (p : Hd × Option Int × Option Int) (ρ : List T) : slM g p ρ = if isU (res ρ p.1) = true then none else okK (g (res ρ p.1) p.2.1 p.2.2) ρ := id rfl
@[simp] theorem fMt_e (g : T → List T → Option T) (o : M Hd) (as : M (List Hd)) (ρ : List T) : fMt g o as ρ = M.bind (o.seq as) (mtM g) ρ := id rfl
@[simp] theorem mtM_e (g : T → List T → Option T) (p : Hd × List Hd) (ρ : List T) : mtM g p ρ = if isU (res ρ p.1) = true then none else match resL ρ p.2 with
  | none => none
  | some ts => okK (g (res ρ p.1) ts) ρ := rfl
@[simp] theorem oStr_e (o : M Hd) (ρ : List T) : oStr o ρ = M.bind o strM ρ := id rfl
def strK (h : Hd) (ρ : List T) : T → Option (Res Hd)
  | .str _ => some (.ok h ρ)
  | _ => none
@[simp] theorem strK_str (h : Hd) (ρ : List T) (s : Str) : strK h ρ (.str s) = some (.ok h ρ) := id rfl
@[simp] theorem strM_e (h : Hd) (ρ : List T) : strM h ρ = strK h ρ (res ρ h) := by
  unfold strM
  cases res ρ h <;> rfl
@[simp] theorem fMut_e (i : Nat) (g : List T → List T → Option (T × List T)) (as : M (List Hd)) (ρ : List T) : fMut i g as ρ = M.bind (lstM i) (fun _ => as.bind (mutM i g)) ρ := id rfl
@[simp] theorem lstM_e (i : Nat) (ρ : List T) : lstM i ρ = if isLst (ρ.getD i .unb) = true then some (.ok (.pl i) ρ) else none := id rfl
def mutK (i : Nat) (ρ : List T) : Option (T × List T) → Option (Res T)
  | some (t, ts) => if pureT t = true then (if ts.all pureT = true then some (.ok t (ρ.set i (.lst ts))) else none) else none
  | none => none
@[simp] theorem mutK_some (i : Nat) (ρ : List T) (t : T) (ts : List T) : mutK i ρ (some (t, ts)) = if pureT t = true then (if ts.all pureT = true then some (.ok t (ρ.set i (.lst ts))) else none) else none := id rfl
@[simp] theorem mutK_none (i : Nat) (ρ : List T) : mutK i ρ none = none := id rfl
@[simp] theorem mutK_ite (i : Nat) (ρ : List T) {c : Prop} [Decidable c] (x y : Option (T × List T)) : mutK i ρ (if c then x else y) = if c then mutK i ρ x else mutK i ρ y := by split <;> rfl
@[simp] theorem mutM_e (i : Nat) (g : List T → List T → Option (T × List T)) (hs : List Hd) (ρ : List T) : mutM i g hs ρ = match ρ.getD i .unb, resL ρ hs with
  | .lst ts, some as => mutK i ρ (g ts as)
  | _, _ => none := by
  unfold mutM
  cases ρ.getD i .unb <;> cases resL ρ hs <;> try rfl
  rename_i ts as
  show (g ts as).bind _ = mutK i ρ (g ts as)
  cases g ts as with
  | none => rfl
  | some q =>
    obtain ⟨t, ts⟩ := q
    simp only [Option.bind_some, mutK_some]
    cases pureT t <;> simp
@[simp] theorem sSetI_e (i : Nat) (ix : M Hd) (v : M T) (ρ : List T) : sSetI i ix v ρ = M.bind v (fun t => if pureT t = true then (lstM i).bind fun _ => ix.bind (setIM i t) else fun _ => none) ρ := id rfl
@[simp] theorem setIM_e (i : Nat) (t : T) (h : Hd) (ρ : List T) : setIM i t h ρ = match ρ.getD i .unb, res ρ h with
  | .lst ts, .int k => (ixN ts.length k).bind fun j => if pureT t = true then some (.ok .nx (ρ.set i (.lst (ts.set j t)))) else none
  | _, _ => none := id rfl
@[simp] theorem sAugI_e (i : Nat) (g : T → T → Option T) (ix o : M Hd) (ρ : List T) : sAugI i g ix o ρ = M.bind (lstM i) (fun _ => ix.bind (augI1 i g o)) ρ := id rfl
@[simp] theorem augI1_e (i : Nat) (g : T → T → Option T) (o : M Hd) (h : Hd) (ρ : List T) : augI1 i g o h ρ = match ρ.getD i .unb, res ρ h with
  | .lst ts, .int k => (atI ts k).bind fun a => (o.bind (augI2 i k g a)) ρ
  | _, _ => none := id rfl
@[simp] theorem augI2_e (i : Nat) (k : Int) (g : T → T → Option T) (a : T) (h : Hd) (ρ : List T) : augI2 i k g a h ρ = match ρ.getD i .unb with
  | .lst ts => if isU (res ρ h) = true then none else (g a (res ρ h)).bind fun z => if pureT z = true then (ixN ts.length k).map fun j => .ok .nx (ρ.set i (.lst (ts.set j z))) else none
  | _ => none := id rfl
@[simp] theorem fFrz_e (f : M T) (ρ : List T) : fFrz f ρ = M.bind f (fun t => M.pure (frzT t)) ρ := id rfl
@[simp] theorem frz_lst (ts : List T) : frzT (.lst ts) = .fro ts := id rfl
theorem frz_pure {t : T} (h : pureT t = true) : frzT t = t := by cases t <;> first | rfl | cases h
@[simp] theorem frz_non : frzT .non = .non := id rfl
@[simp] theorem frz_bl (b : Bool) : frzT (.bl b) = .bl b := id rfl
@[simp] theorem frz_int (b : Int) : frzT (.int b) = .int b := id rfl
@[simp] theorem frz_str (b : Str) : frzT (.str b) = .str b := id rfl
@[simp] theorem frz_tup (b : List T) : frzT (.tup b) = .tup b := id rfl
@[simp] theorem frz_fro (b : List T) : frzT (.fro b) = .fro b := id rfl
@[simp] theorem fDef_e (m : M T) (as : M (List Hd)) (ρ : List T) : fDef m as ρ = M.bind as (defM m) ρ := id rfl
@[simp] theorem defM_e (m : M T) (hs : List Hd) (ρ : List T) : defM m hs ρ = match takeA hs ρ with
  | none => none
  | some (ts, ρ1) => callK hs ts ρ1 (m ts) := rfl
@[simp] theorem takeA_nil (ρ : List T) : takeA [] ρ = some ([], ρ) := id rfl
@[simp] theorem takeA_tm (t : T) (hs : List Hd) (ρ : List T) : takeA (.tm t :: hs) ρ = if isU t = true then none else (takeA hs ρ).map fun q => (t :: q.1, q.2) := id rfl
@[simp] theorem takeA_pl (i : Nat) (hs : List Hd) (ρ : List T) : takeA (.pl i :: hs) ρ = if isU (ρ.getD i .unb) = true then none else if pureT (ρ.getD i .unb) = true then (takeA hs ρ).map fun q => (ρ.getD i .unb :: q.1, q.2)
      else (takeA hs (ρ.set i .unb)).map fun q => (ρ.getD i .unb :: q.1, q.2) := rfl
@[simp] theorem putBack_nil (ts ts' ρ : List T) : putBack [] ts ts' ρ = some ρ := by cases ts <;> cases ts' <;> rfl
@[simp] theorem putBack_tm (t t0 t1 : T) (hs : List Hd) (ts ts' ρ : List T) : putBack (.tm t :: hs) (t0 :: ts) (t1 :: ts') ρ = putBack hs ts ts' ρ := id rfl
@[simp] theorem putBack_pl (i : Nat) (t0 t1 : T) (hs : List Hd) (ts ts' ρ : List T) : putBack (.pl i :: hs) (t0 :: ts) (t1 :: ts') ρ = if pureT t0 = true then putBack hs ts ts' ρ else match ρ[i]? with
    | some .unb => putBack hs ts ts' (ρ.set i t1)
    | _ => none := rfl
@[simp] theorem fBody_e (n l : Nat) (pr : Nat → Bool) (fb : M Fl) (ts : List T) : fBody n l pr fb ts = if ts.length = n then bodyK pr ts (fb (ts ++ List.replicate (l - n) .unb)) else none := id rfl
@[simp] theorem copyOut_nil (pr : Nat → Bool) (k : Nat) (ρ : List T) : copyOut pr k [] ρ = [] := by cases ρ <;> rfl
@[simp] theorem copyOut_cons (pr : Nat → Bool) (k : Nat) (t r : T) (ts ρ : List T) : copyOut pr k (t :: ts) (r :: ρ) = (if pureT t = true then t else if pr k = true then r else .unb) :: copyOut pr (k + 1) ts ρ := id rfl
@[simp] theorem prS_e (l : List Nat) (k : Nat) : prS l k = l.contains k := id rfl
@[simp] theorem g2I_e (f : Int → Int → T) (i j : Int) : g2I f (.int i) (.int j) = some (f i j) := id rfl
@[simp] theorem g2C_e (c : Int → Int → Bool) (f : Int → Int → T) (i j : Int) : g2C c f (.int i) (.int j) = if c i j = true then some (f i j) else none := id rfl
@[simp] theorem gAdd_int (i j : Int) : gAdd (.int i) (.int j) = some (.int (i + j)) := id rfl
@[simp] theorem gAdd_str (x y : Str) : gAdd (.str x) (.str y) = if x.length + y.length ≤ sizeLine then some (.str (x ++ y)) else none := by
  show (if x.length + y.length ≤ sizeLine then some (T.str (x ++ y)) else none).or none = _
  simp
@[simp] theorem gAdd_tup (x y : List T) : gAdd (.tup x) (.tup y) = if x.length + y.length ≤ sizeLine then some (.tup (x ++ y)) else none := by
  show (if x.length + y.length ≤ sizeLine then some (T.tup (x ++ y)) else none).or none = _
  simp
@[simp] theorem gAdd_lst (x y : List T) : gAdd (.lst x) (.lst y) = if x.length + y.length ≤ sizeLine then some (.lst (x ++ y)) else none := id rfl
@[simp] theorem gIadd_int (i j : Int) : gIadd (.int i) (.int j) = some (.int (i + j)) := id rfl
@[simp] theorem gIadd_str (x y : Str) : gIadd (.str x) (.str y) = if x.length + y.length ≤ sizeLine then some (.str (x ++ y)) else none := id rfl
@[simp] theorem gNeg_int (i : Int) : gNeg (.int i) = some (.int (-i)) := id rfl
@[simp] theorem gEq_int (i j : Int) : gEq (.int i) (.int j) = some (.bl (decide (i = j))) := id rfl
@[simp] theorem gEq_str (i j : Str) : gEq (.str i) (.str j) = some (.bl (decide (i = j))) := id rfl
@[simp] theorem gEq_bl (i j : Bool) : gEq (.bl i) (.bl j) = some (.bl (decide (i = j))) := id rfl
@[simp] theorem gNe_int (i j : Int) : gNe (.int i) (.int j) = some (.bl !(decide (i = j))) := id rfl
@[simp] theorem gNe_str (i j : Str) : gNe (.str i) (.str j) = some (.bl !(decide (i = j))) := id rfl
@[simp] theorem gNe_bl (i j : Bool) : gNe (.bl i) (.bl j) = some (.bl !(decide (i = j))) := id rfl
@[simp] theorem gLen_str (z : Str) : gLen [.str z] = if z.length ≤ sizeLine then some (.int z.length) else none := id rfl
@[simp] theorem gLen_tup (ts : List T) : gLen [.tup ts] = some (.int ts.length) := id rfl
@[simp] theorem gLen_fro (ts : List T) : gLen [.fro ts] = some (.int ts.length) := id rfl
@[simp] theorem gLen_lst (ts : List T) : gLen [.lst ts] = some (.int ts.length) := id rfl
@[simp] theorem gIx_str (z : Str) (i : Int) : gIx (.str z) (.int i) = if z.length ≤ sizeLine then (atI z.cps.toList i).map fun c => .str ⟨#[c]⟩ else none := id rfl
@[simp] theorem gIx_tup (ts : List T) (i : Int) : gIx (.tup ts) (.int i) = atI ts i := id rfl
@[simp] theorem gIx_fro (ts : List T) (i : Int) : gIx (.fro ts) (.int i) = atI ts i := id rfl
@[simp] theorem gIx_lst (ts : List T) (i : Int) : gIx (.lst ts) (.int i) = atI ts i := id rfl
@[simp] theorem gInt_int (i : Int) : gInt [.int i] = some (.int i) := id rfl
@[simp] theorem gInt_bl (b : Bool) : gInt [.bl b] = some (.int (if b then 1 else 0)) := id rfl
@[simp] theorem gAbs_int (i : Int) : gAbs [.int i] = some (.int (if i < 0 then -i else i)) := id rfl
@[simp] theorem gMax2_int (i j : Int) : gMax2 [.int i, .int j] = some (.int (if j > i then j else i)) := id rfl
@[simp] theorem gMin2_int (i j : Int) : gMin2 [.int i, .int j] = some (.int (if j < i then j else i)) := id rfl
@[simp] theorem gTupleOf_lst (ts : List T) : gTupleOf [.lst ts] = some (.tup ts) := id rfl
@[simp] theorem gTupleOf_fro (ts : List T) : gTupleOf [.fro ts] = some (.tup ts) := id rfl
@[simp] theorem gTupleOf_tup (ts : List T) : gTupleOf [.tup ts] = some (.tup ts) := id rfl
@[simp] theorem gListOf_lst (ts : List T) : gListOf [.lst ts] = some (.lst ts) := id rfl
@[simp] theorem gListOf_fro (ts : List T) : gListOf [.fro ts] = some (.lst ts) := id rfl
@[simp] theorem gListOf_tup (ts : List T) : gListOf [.tup ts] = some (.lst ts) := id rfl
@[simp] theorem gTupD_e (ts : List T) : gTupD ts = if (ts.all pureT && decide (ts.length ≤ 1000)) = true then some (.tup ts) else none := id rfl
@[simp] theorem gLstD_e (ts : List T) : gLstD ts = if (ts.all pureT && decide (ts.length ≤ 1000)) = true then some (.lst ts) else none := id rfl
@[simp] theorem gAppend_one (ts : List T) (a : T) : gAppend ts [a] = if ts.length < sizeLine then some (.non, ts ++ [a]) else none := id rfl
@[simp] theorem gInS_str (x z : Str) : gIn (.str x) (.str z) = match x.cps.toList with
    | [c] => some (.bl (decide (c ∈ z.cps.toList)))
    | _ => none := by
  show (gInS (.str x) (.str z)).or none = _
  rw [Option.or_none]
  rfl
@[simp] theorem gNotIn_str (c : Nat) (z : Str) : gNotIn (.str ⟨#[c]⟩) (.str z) = some (.bl !(decide (c ∈ z.cps.toList))) := id rfl
@[simp] theorem gIn_str (c : Nat) (z : Str) : gIn (.str ⟨#[c]⟩) (.str z) = some (.bl (decide (c ∈ z.cps.toList))) := id rfl
@[simp] theorem srcSeq_e (lv : List Nat) (o : M Hd) (ρ : List T) : srcSeq lv o ρ = M.bind o (seqM lv) ρ := id rfl
@[simp] theorem seqM_e (lv : List Nat) (h : Hd) (ρ : List T) : seqM lv h ρ = match res ρ h with
  | .tup xs => some (.ok (xs, chk1) ρ)
  | .fro xs => some (.ok (xs, chk1) ρ)
  | .scr xs => some (.ok (xs, chk1) ρ)
  | .lst xs => match h with
    | .tm _ => some (.ok (xs, chk1) ρ)
    | .pl i => if i ∈ lv then some (.ok (xs, chkL i xs) ρ) else none
  | _ => none := id rfl
@[simp] theorem chk1_e (ρ : List T) : chk1 ρ = true := id rfl
@[simp] theorem chkL_e (i : Nat) (xs ρ : List T) : chkL i xs ρ = T.beq (ρ.getD i .unb) (.lst xs) := id rfl
@[simp] theorem beq_self (t : T) : T.beq t t = true := T.beq_self t
@[simp] theorem srcRange1_e (a : M (List Hd)) (ρ : List T) : srcRange1 a ρ = M.bind a rng1M ρ := id rfl
@[simp] theorem srcRange2_e (a : M (List Hd)) (ρ : List T) : srcRange2 a ρ = M.bind a rng2M ρ := id rfl
@[simp] theorem rng1M_e (hs : List Hd) (ρ : List T) : rng1M hs ρ = match resL ρ hs with
  | some [.int j] => if big62 j = true then some (.ok (rangeT 0 j.toNat, chk1) ρ) else none
  | _ => none := id rfl
@[simp] theorem rng2M_e (hs : List Hd) (ρ : List T) : rng2M hs ρ = match resL ρ hs with
  | some [.int i, .int j] => if (big62 i && big62 j) = true then some (.ok (rangeT i (j - i).toNat, chk1) ρ) else none
  | _ => none := id rfl
@[simp] theorem sFor_e (src : M (List T × (List T → Bool))) (g : T → M Unit) (b : M Fl) (ρ : List T) : sFor src g b ρ = M.bind src (fun p => forL p.2 g b p.1) ρ := id rfl
@[simp] theorem fComp_e (vs : List Nat) (src : M (List T × (List T → Bool))) (g : T → M Unit) (c : M Bool) (el : M T) (ρ : List T) : fComp vs src g c el ρ = M.bind src (compM vs g c el) ρ := id rfl
@[simp] theorem gIs_e (f : String → Bool) (t : T) : gIs f t = (tyN t).map fun s => .bl (f s) := id rfl
theorem ixN_ok {n : Nat} {i : Int} (h0 : 0 ≤ i) (h1 : i < n) : ixN n i = some i.toNat := by unfold ixN; rw [if_pos h0, if_pos h1]
theorem atI_ok {α : Type} {xs : List α} {i : Int} (h0 : 0 ≤ i) (h1 : i < xs.length) : atI xs i = xs[i.toNat]? := by unfold atI; rw [ixN_ok h0 h1]; rfl
@[simp] theorem atI_0 {α : Type} (a : α) (xs : List α) : atI (a :: xs) 0 = some a := by rw [atI_ok (by decide) (by simp only [List.length_cons]; omega)]; rfl
@[simp] theorem atI_1 {α : Type} (a b : α) (xs : List α) : atI (a :: b :: xs) 1 = some b := by rw [atI_ok (by decide) (by simp only [List.length_cons]; omega)]; rfl
@[simp] theorem atI_2 {α : Type} (a b c : α) (xs : List α) : atI (a :: b :: c :: xs) 2 = some c := by rw [atI_ok (by decide) (by simp only [List.length_cons]; omega)]; rfl
@[simp] theorem atI_3 {α : Type} (a b c d : α) (xs : List α) : atI (a :: b :: c :: d :: xs) 3 = some d := by rw [atI_ok (by decide) (by simp only [List.length_cons]; omega)]; rfl
@[simp] theorem atI_4 {α : Type} (a b c d e : α) (xs : List α) : atI (a :: b :: c :: d :: e :: xs) 4 = some e := by rw [atI_ok (by decide) (by simp only [List.length_cons]; omega)]; rfl
@[simp] theorem ixN_lit1 (n : Nat) : ixN (n + 1) 0 = some 0 := by rw [ixN_ok (by decide) (by omega)]; rfl
@[simp] theorem ixN_lit2 (n : Nat) : ixN (n + 1 + 1) 1 = some 1 := by rw [ixN_ok (by decide) (by omega)]; rfl
@[simp] theorem ixN_lit3 (n : Nat) : ixN (n + 1 + 1 + 1) 2 = some 2 := by rw [ixN_ok (by decide) (by omega)]; rfl
@[simp] theorem ixN_lit4 (n : Nat) : ixN (n + 1 + 1 + 1 + 1) 3 = some 3 := by rw [ixN_ok (by decide) (by omega)]; rfl
@[simp] theorem mulOk_l (i j : Int) (h : i.natAbs < 18446744073709551616) : mulOk i j = true := by simp [mulOk, h]
@[simp] theorem mulOk_r (i j : Int) (h : j.natAbs < 18446744073709551616) : mulOk i j = true := by simp [mulOk, h]
@[simp] theorem divOk_s (i j : Int) (h : 0 < j) (h2 : j < 1073741824) : divOk i j = true := by simp [divOk, h, h2]
@[simp] theorem modOk_s (i j : Int) (h : 0 < j) : modOk i j = true := by simp [modOk, h]
end
end FL
/-! plain lemmas for running the programs -/
namespace FL
open PySem PySem.Spec L2
/-! ### loops -/
section
variable {c : M Bool} {b : M Fl} {ρ ρ1 ρ2 : List T}
theorem sWhile_end (h : c ρ = some (.ok false ρ1)) : sWhile c b ρ = some (.ok .nx ρ1) := by rw [sWhile.eq_1, h]
theorem sWhile_nx (h : c ρ = some (.ok true ρ1)) (k : b ρ1 = some (.ok .nx ρ2)) : sWhile c b ρ = sWhile c b ρ2 := by rw [sWhile.eq_1, h]; simp only [k]
theorem sWhile_ct (h : c ρ = some (.ok true ρ1)) (k : b ρ1 = some (.ok .ct ρ2)) : sWhile c b ρ = sWhile c b ρ2 := by rw [sWhile.eq_1, h]; simp only [k]
theorem sWhile_bk (h : c ρ = some (.ok true ρ1)) (k : b ρ1 = some (.ok .bk ρ2)) : sWhile c b ρ = some (.ok .nx ρ2) := by rw [sWhile.eq_1, h]; simp only [k]
theorem sWhile_rt {t : T} (h : c ρ = some (.ok true ρ1)) (k : b ρ1 = some (.ok (.rt t) ρ2)) : sWhile c b ρ = some (.ok (.rt t) ρ2) := by rw [sWhile.eq_1, h]; simp only [k]
end
section
variable {chk : List T → Bool} {g : T → M Unit} {b : M Fl} {c : M Bool} {el : M T} {vs : List Nat}
theorem forL_nil {ρ : List T} (h : chk ρ = true) : forL chk g b [] ρ = some (.ok .nx ρ) := by simp only [forL, h, if_true]
theorem forL_nx {x : T} {xs ρ ρ1 ρ2 : List T} {u : Unit} (h : chk ρ = true) (e : g x ρ = some (.ok u ρ1)) (k : b ρ1 = some (.ok .nx ρ2)) : forL chk g b (x :: xs) ρ = forL chk g b xs ρ2 := by simp only [forL, h, if_true, e, k]
theorem forL_ct {x : T} {xs ρ ρ1 ρ2 : List T} {u : Unit} (h : chk ρ = true) (e : g x ρ = some (.ok u ρ1)) (k : b ρ1 = some (.ok .ct ρ2)) : forL chk g b (x :: xs) ρ = forL chk g b xs ρ2 := by simp only [forL, h, if_true, e, k]
/-- a for loop that goes through, with an invariant over what is left and the slots -/
theorem forL_inv (I : List T → List T → Prop) (h0 : ∀ xs ρ, I xs ρ → chk ρ = true)
    (h : ∀ x xs ρ, I (x :: xs) ρ → ∃ u ρ1 ρ2, g x ρ = some (.ok u ρ1) ∧ (b ρ1 = some (.ok .nx ρ2) ∨ b ρ1 = some (.ok .ct ρ2)) ∧ I xs ρ2) :
    ∀ xs ρ, I xs ρ → ∃ ρ', forL chk g b xs ρ = some (.ok .nx ρ') ∧ I [] ρ'
  | [], ρ, i => ⟨ρ, forL_nil (h0 _ _ i), i⟩
  | x :: xs, ρ, i => by
    obtain ⟨u, ρ1, ρ2, e, k, i'⟩ := h x xs ρ i
    obtain ⟨ρ', e', i2⟩ := forL_inv I h0 h xs ρ2 i'
    refine ⟨ρ', ?_, i2⟩
    rcases k with k | k
    · rw [forL_nx (h0 _ _ i) e k, e']
    · rw [forL_ct (h0 _ _ i) e k, e']
inductive All2 (P : T → T → Prop) : List T → List T → Prop
  | nil : All2 P [] []
  | cons {x y : T} {xs ys : List T} : P x y → All2 P xs ys → All2 P (x :: xs) (y :: ys)
theorem All2.length {P : T → T → Prop} : ∀ {xs ys : List T}, All2 P xs ys → ys.length = xs.length
  | _, _, .nil => rfl
  | _, _, .cons _ h => by simp [h.length]
theorem All2.right {P : T → T → Prop} {R : T → Prop} (f : ∀ x y, P x y → R y) : ∀ {xs ys : List T}, All2 P xs ys → ∀ y ∈ ys, R y
  | _, _, .nil, y, m => by cases m
  | _, _, .cons p h, y, m => by
    cases m with
    | head => exact f _ _ p
    | tail _ m => exact h.right f y m
theorem All2.eqmap {P : T → T → Prop} {f : T → T} (k : ∀ x y, P x y → y = f x) : ∀ {xs ys : List T}, All2 P xs ys → ys = xs.map f
  | _, _, .nil => rfl
  | _, _, .cons p h => by rw [h.eqmap k, k _ _ p]; rfl
/-- a comprehension with no test that goes through -/
theorem compL_inv (P : T → T → Prop) (I : List T → List T → Prop) (h0 : ∀ xs ρ, I xs ρ → chk ρ = true)
    (h : ∀ x xs ρ, I (x :: xs) ρ → ∃ u ρ1 t ρ3, g x ρ = some (.ok u ρ1) ∧ c ρ1 = some (.ok true ρ1) ∧ el ρ1 = some (.ok t ρ3) ∧ pureT t = true ∧ P x t ∧ I xs (wipeT vs 0 ρ3)) :
    ∀ n xs ρ, n + xs.length ≤ sizeLine → I xs ρ → ∃ ts ρ', compL vs chk g c el n xs ρ = some (.ok ts ρ') ∧ All2 P xs ts ∧ I [] ρ'
  | n, [], ρ, hn, i => ⟨[], ρ, by simp only [compL, h0 _ _ i, if_true], .nil, i⟩
  | n, x :: xs, ρ, hn, i => by
    obtain ⟨u, ρ1, t, ρ3, e, k, l, p, q, i'⟩ := h x xs ρ i
    simp only [List.length_cons] at hn
    obtain ⟨ts, ρ', e', a, i2⟩ := compL_inv P I h0 h (n + 1) xs _ (by omega) i'
    refine ⟨t :: ts, ρ', ?_, .cons q a, i2⟩
    have hs : (pureT t && decide (n < sizeLine)) = true := by rw [p, decide_eq_true (by omega : n < sizeLine)]; rfl
    simp only [compL, h0 _ _ i, if_true, e, k, l, hs, e']
end
theorem mix_wipe (vs : List Nat) : ∀ (k : Nat) (ρ : List T), mixT vs k ρ (wipeT vs k ρ) = ρ
  | _, [] => rfl
  | k, t :: ts => by
    rw [wipeT, mixT, mix_wipe vs (k + 1) ts]
    by_cases h : vs.contains k = true <;> simp only [h, if_true, Bool.false_eq_true, if_false]
section
variable {chk : List T → Bool} {g : T → M Unit} {c : M Bool} {el : M T} {vs : List Nat}
theorem compM_inv (P : T → T → Prop) (I : List T → List T → Prop) (h0 : ∀ xs ρ, I xs ρ → chk ρ = true)
    (h : ∀ x xs ρ, I (x :: xs) ρ → ∃ u ρ1 t ρ3, g x ρ = some (.ok u ρ1) ∧ c ρ1 = some (.ok true ρ1) ∧ el ρ1 = some (.ok t ρ3) ∧ pureT t = true ∧ P x t ∧ I xs (wipeT vs 0 ρ3))
    {xs ρ : List T} (hk : okW vs 0 ρ = true) (hn : xs.length ≤ sizeLine) (i : I xs (wipeT vs 0 ρ)) :
    ∃ ts ρ', compM vs g c el (xs, chk) ρ = some (.ok (.lst ts) (mixT vs 0 ρ ρ')) ∧ All2 P xs ts ∧ I [] ρ' := by
  obtain ⟨ts, ρ', e, a, j⟩ := compL_inv (vs := vs) P I h0 h 0 xs _ (by omega) i
  refine ⟨ts, ρ', ?_, a, j⟩
  unfold compM
  simp only [hk, if_true, e]
theorem compM_map {xs ρ : List T} (f : T → T) (hk : okW vs 0 ρ = true) (hn : xs.length ≤ sizeLine) (h0 : chk (wipeT vs 0 ρ) = true)
    (h : ∀ x, x ∈ xs → ∃ u ρ1 ρ3, g x (wipeT vs 0 ρ) = some (.ok u ρ1) ∧ c ρ1 = some (.ok true ρ1) ∧ el ρ1 = some (.ok (f x) ρ3) ∧ pureT (f x) = true ∧ wipeT vs 0 ρ3 = wipeT vs 0 ρ) :
    compM vs g c el (xs, chk) ρ = some (.ok (.lst (xs.map f)) ρ) := by
  obtain ⟨ts, ρ', e, a, j⟩ := compM_inv (chk := chk) (g := g) (c := c) (el := el) (vs := vs) (xs := xs) (ρ := ρ) (fun x t => t = f x) (fun ys σ => (∀ x, x ∈ ys → x ∈ xs) ∧ σ = wipeT vs 0 ρ)
    (fun ys σ i => by rw [i.2]; exact h0)
    (fun x ys σ i => by
      obtain ⟨u, ρ1, ρ3, e1, e2, e3, e4, e5⟩ := h x (i.1 x List.mem_cons_self)
      exact ⟨u, ρ1, f x, ρ3, by rw [i.2]; exact e1, e2, e3, e4, rfl, fun y m => i.1 y (List.mem_cons_of_mem _ m), e5⟩)
    hk hn ⟨fun _ m => m, rfl⟩
  rw [e, j.2, mix_wipe, a.eqmap (f := f) fun _ _ q => q]
end
theorem mem_rangeT {lo : Int} {n : Nat} {x : T} (h : x ∈ rangeT lo n) : ∃ i : Nat, i < n ∧ x = .int (lo + i) := by
  simp only [rangeT, List.mem_map, List.mem_range] at h
  obtain ⟨i, hi, e⟩ := h
  exact ⟨i, hi, e.symm⟩
theorem rangeT_zero (lo : Int) : rangeT lo 0 = [] := rfl
theorem rangeT_succ (lo : Int) (n : Nat) : rangeT lo (n + 1) = .int lo :: rangeT (lo + 1) n := by
  simp only [rangeT, List.range_succ_eq_map, List.map_cons, List.map_map]
  congr 1
  · simp
  · apply List.map_congr_left
    intro i _
    simp only [Function.comp]
    congr 1
    omega
@[simp] theorem length_rangeT (lo : Int) (n : Nat) : (rangeT lo n).length = n := by simp [rangeT]
theorem big62_nat {n : Nat} (h : n ≤ 1000000000) : big62 (n : Int) = true := by
  unfold big62
  rw [decide_eq_true (by omega : -(2 ^ 62 : Int) ≤ n), decide_eq_true (by omega : (n : Int) < 2 ^ 62)]
  rfl
/-! ### texts -/
/-- the text of these signs -/
def sT (l : List Nat) : T := .str ⟨l.toArray⟩
@[simp] theorem pure_sT (l : List Nat) : pureT (sT l) = true := rfl
@[simp] theorem isU_sT (l : List Nat) : isU (sT l) = false := rfl
@[simp] theorem frzT_sT (l : List Nat) : frzT (sT l) = sT l := rfl
@[simp] theorem all_sT (ls : List (List Nat)) : (∀ x, x ∈ List.map sT ls → pureT x = true) ↔ True := ⟨fun _ => trivial, fun _ x h => by
  obtain ⟨l, _, rfl⟩ := List.mem_map.mp h
  rfl⟩
@[simp] theorem all_sT2 (ls : List (List Nat)) (ys : List T) : (∀ x, x ∈ List.map sT ls ++ ys → pureT x = true) ↔ ∀ x, x ∈ ys → pureT x = true := ⟨fun h x m => h x (List.mem_append_right _ m), fun h x m => by
  rcases List.mem_append.mp m with m | m
  · exact (all_sT ls).mpr trivial x m
  · exact h x m⟩
@[simp] theorem strK_sT (h : Hd) (ρ : List T) (l : List Nat) : strK h ρ (sT l) = some (.ok h ρ) := id rfl
theorem str_eq (s : Str) : T.str s = sT s.cps.toList := rfl
theorem sT_inj {a b : List Nat} (h : sT a = sT b) : a = b := by
  have := T.str.inj h
  have := congrArg (fun z : Str => z.cps.toList) this
  simpa using this
@[simp] theorem gLen_sT (l : List Nat) (h : l.length ≤ sizeLine) : gLen [sT l] = some (.int l.length) := by
  show (if (l.toArray.size) ≤ sizeLine then _ else none) = _
  rw [if_pos (by simpa using h)]
  simp [Str.length]
theorem gIx_sT {l : List Nat} {i : Nat} (h : l.length ≤ sizeLine) (hi : i < l.length) : gIx (sT l) (.int i) = some (sT [l[i]]) := by
  show (if (l.toArray.size) ≤ sizeLine then (atI l (i : Int)).map _ else none) = _
  rw [if_pos (by simpa using h), atI_ok (by omega) (by omega)]
  simp [hi, sT]
theorem gSl_sT {l : List Nat} {i j : Nat} (h : l.length ≤ sizeLine) : gSl (sT l) (some i) (some j) = some (sT ((l.drop i).take (j - i))) := by
  show (if (l.toArray.size) ≤ sizeLine then _ else none) = _
  rw [if_pos (by simpa using h)]
  have e : cutS ⟨l.toArray⟩ (some (i : Int)) (some (j : Int)) = ⟨((l.drop i).take (j - i)).toArray⟩ := by
    unfold cutS
    rw [HT.sIx_nat, HT.sIx_nat]
    show (⟨(List.take _ (List.drop _ l)).toArray⟩ : Str) = _
    congr 2
    show List.take (min j l.toArray.size - min i l.toArray.size) (List.drop (min i l.toArray.size) l) = _
    simp only [List.size_toArray]
    by_cases hi : i ≤ l.length
    · rw [Nat.min_eq_left hi]
      by_cases hj : j ≤ l.length
      · rw [Nat.min_eq_left hj]
      · rw [Nat.min_eq_right (by omega), List.take_of_length_le (by simp), List.take_of_length_le (by simp; omega)]
    · rw [List.drop_of_length_le (by omega), List.drop_of_length_le (by omega)]; simp
  rw [e]; rfl
theorem gSl0_sT {l : List Nat} {j : Nat} (h : l.length ≤ sizeLine) : gSl (sT l) none (some j) = some (sT (l.take j)) := by
  show (if (l.toArray.size) ≤ sizeLine then _ else none) = _
  rw [if_pos (by simpa using h)]
  have e : cutS ⟨l.toArray⟩ none (some (j : Int)) = ⟨(l.take j).toArray⟩ := by
    unfold cutS
    rw [HT.sIx_nat]
    show (⟨(List.take _ (List.drop 0 l)).toArray⟩ : Str) = _
    congr 2
    show List.take (min j l.toArray.size - 0) _ = _
    simp only [List.size_toArray, List.drop_zero, Nat.sub_zero]
    by_cases hj : j ≤ l.length
    · rw [Nat.min_eq_left hj]
    · rw [Nat.min_eq_right (by omega), List.take_of_length_le (by omega), List.take_of_length_le (by omega)]
  rw [e]; rfl
@[simp] theorem gEq_sT (a b : List Nat) : gEq (sT a) (sT b) = some (.bl (decide (a = b))) := by
  show some (T.bl (decide ((⟨a.toArray⟩ : Str) = ⟨b.toArray⟩))) = _
  congr 2
  simp
theorem gAdd_sT {a b : List Nat} (h : a.length + b.length ≤ sizeLine) : gAdd (sT a) (sT b) = some (sT (a ++ b)) := by
  show ((if a.toArray.size + b.toArray.size ≤ sizeLine then some (T.str (⟨a.toArray⟩ ++ ⟨b.toArray⟩)) else none).or _) = _
  rw [if_pos (by simpa using h)]
  show some (T.str ⟨a.toArray ++ b.toArray⟩) = _
  simp [sT]
theorem gIn_sT (c : Nat) (l : List Nat) : gIn (sT [c]) (sT l) = some (.bl (decide (c ∈ l))) := by
  rw [show sT [c] = .str ⟨#[c]⟩ from rfl, show sT l = .str ⟨l.toArray⟩ from rfl, gIn_str]
theorem gNotIn_sT (c : Nat) (l : List Nat) : gNotIn (sT [c]) (sT l) = some (.bl !(decide (c ∈ l))) := by
  rw [show sT [c] = .str ⟨#[c]⟩ from rfl, show sT l = .str ⟨l.toArray⟩ from rfl, gNotIn_str]
/-! ### isinstance -/
@[simp] theorem tyN_non  : tyN (.non) = some "NoneType" := id rfl
@[simp] theorem tyN_bl (b : Bool) : tyN (.bl b) = some "bool" := id rfl
@[simp] theorem tyN_int (i : Int) : tyN (.int i) = some "int" := id rfl
@[simp] theorem tyN_str (s : Str) : tyN (.str s) = some "str" := id rfl
@[simp] theorem tyN_tup (ts : List T) : tyN (.tup ts) = some "tuple" := id rfl
@[simp] theorem tyN_fro (ts : List T) : tyN (.fro ts) = some "list" := id rfl
@[simp] theorem tyN_scr (ts : List T) : tyN (.scr ts) = some "list" := id rfl
@[simp] theorem tyN_sT (l : List Nat) : tyN (sT l) = some "str" := id rfl
@[simp] theorem isTuple_NoneType : isTuple "NoneType" = false := by decide +kernel
@[simp] theorem isTuple_bool : isTuple "bool" = false := by decide +kernel
@[simp] theorem isTuple_int : isTuple "int" = false := by decide +kernel
@[simp] theorem isTuple_str : isTuple "str" = false := by decide +kernel
@[simp] theorem isTuple_tuple : isTuple "tuple" = true := by decide +kernel
@[simp] theorem isTuple_list : isTuple "list" = false := by decide +kernel
@[simp] theorem isStr_NoneType : isStr "NoneType" = false := by decide +kernel
@[simp] theorem isStr_bool : isStr "bool" = false := by decide +kernel
@[simp] theorem isStr_int : isStr "int" = false := by decide +kernel
@[simp] theorem isStr_str : isStr "str" = true := by decide +kernel
@[simp] theorem isStr_tuple : isStr "tuple" = false := by decide +kernel
@[simp] theorem isStr_list : isStr "list" = false := by decide +kernel
@[simp] theorem isInt_NoneType : isInt "NoneType" = false := by decide +kernel
@[simp] theorem isInt_bool : isInt "bool" = true := by decide +kernel
@[simp] theorem isInt_int : isInt "int" = true := by decide +kernel
@[simp] theorem isInt_str : isInt "str" = false := by decide +kernel
@[simp] theorem isInt_tuple : isInt "tuple" = false := by decide +kernel
@[simp] theorem isInt_list : isInt "list" = false := by decide +kernel
@[simp] theorem isBool_NoneType : isBool "NoneType" = false := by decide +kernel
@[simp] theorem isBool_bool : isBool "bool" = true := by decide +kernel
@[simp] theorem isBool_int : isBool "int" = false := by decide +kernel
@[simp] theorem isBool_str : isBool "str" = false := by decide +kernel
@[simp] theorem isBool_tuple : isBool "tuple" = false := by decide +kernel
@[simp] theorem isBool_list : isBool "list" = false := by decide +kernel
@[simp] theorem isList_NoneType : isList "NoneType" = false := by decide +kernel
@[simp] theorem isList_bool : isList "bool" = false := by decide +kernel
@[simp] theorem isList_int : isList "int" = false := by decide +kernel
@[simp] theorem isList_str : isList "str" = false := by decide +kernel
@[simp] theorem isList_tuple : isList "tuple" = false := by decide +kernel
@[simp] theorem isList_list : isList "list" = true := by decide +kernel
theorem bsOf_const {α : Type} (b : Bool) : ∀ ls : List α, bsOf (ls.map fun _ => T.bl b) = some (ls.map fun _ => b)
  | [] => rfl
  | _ :: ls => by show (bsOf (ls.map fun _ => T.bl b)).map _ = _; rw [bsOf_const b ls]; rfl
theorem gAll_true {α : Type} (ls : List α) : gAll [.lst (ls.map fun _ => T.bl true)] = some (.bl true) := by
  show ((bsOf (ls.map fun _ => T.bl true)).map _) = _
  rw [bsOf_const]
  simp
theorem bsOf_all {α : Type} {f : α → T} : ∀ {ls : List α}, (∀ x, x ∈ ls → f x = .bl true) → bsOf (ls.map f) = some (ls.map fun _ => true)
  | [], _ => rfl
  | x :: ls, h => by
    rw [List.map_cons, h x List.mem_cons_self]
    show (bsOf (ls.map f)).map _ = _
    rw [bsOf_all fun y m => h y (List.mem_cons_of_mem _ m)]
    rfl
theorem gAll_all {α : Type} {f : α → T} {ls : List α} (h : ∀ x, x ∈ ls → f x = .bl true) : gAll [.lst (ls.map f)] = some (.bl true) := by
  show ((bsOf (ls.map f)).map _) = _
  rw [bsOf_all h]
  simp
/-! ### == of lists of texts -/
/-- every sign is a code point -/
def okC (l : List Nat) : Bool := l.all (· < 0x110000)
theorem dOfL_sT : ∀ ls : List (List Nat), dOfL (ls.map sT) = some (ls.map fun l => PyData.str ⟨l.toArray⟩)
  | [] => by simp [dOfL]
  | l :: ls => by
    rw [List.map_cons, dOfL, dOfL_sT ls]
    simp [sT, dOf]
theorem canLay_strs : ∀ {ls : List (List Nat)}, ls.all okC = true → PyData.canLayAll0 (ls.map fun l => PyData.str ⟨l.toArray⟩) = true
  | [], _ => by simp [PyData.canLayAll0]
  | l :: ls, h => by
    simp only [List.all_cons, Bool.and_eq_true] at h
    rw [List.map_cons, PyData.canLayAll0, canLay_strs h.2, Bool.and_true, PyData.canLay0]
    simp only [okC] at h
    simpa [PyData.strOk] using h.1
theorem depth_strs : ∀ ls : List (List Nat), PyData.depthAll (ls.map fun l => PyData.str ⟨l.toArray⟩) = 0
  | [] => by simp [PyData.depthAll]
  | l :: ls => by rw [List.map_cons, PyData.depthAll, depth_strs ls, PyData.depth]; rfl
theorem shaped_strs {ls : List (List Nat)} (h : ls.all okC = true) : SeqAt.shaped (.list (ls.map fun l => PyData.str ⟨l.toArray⟩)) = true := by
  unfold SeqAt.shaped
  rw [PyData.canLay0, canLay_strs h, PyData.depth, depth_strs]
  decide
theorem eqA_self {a b : T} {d : PyData} (s : eqS a b = none) (ha : dOf a = some d) (hb : dOf b = some d) (h : SeqAt.shaped d = true) : eqA a b = some true := by
  unfold eqA eqD
  rw [s, ha, hb]
  simp only [h, Bool.and_self, if_true, Option.none_or]
  rw [SeqAt.eqv_refl d (SeqAt.canLay_of_shaped h)]
theorem gNe_strs {ls : List (List Nat)} (h : ls.all okC = true) : gNe (.lst (ls.map sT)) (.lst (ls.map sT)) = some (.bl false) := by
  unfold gNe
  rw [eqA_self (d := .list (ls.map fun l => PyData.str ⟨l.toArray⟩)) rfl (by rw [dOf, dOfL_sT]; rfl) (by rw [dOf, dOfL_sT]; rfl) (shaped_strs h)]
  rfl
/-! ### join -/
theorem ssOf_sT : ∀ ls : List (List Nat), ssOf (ls.map sT) = some (ls.map fun l => (⟨l.toArray⟩ : Str))
  | [] => rfl
  | l :: ls => by rw [List.map_cons]; show (ssOf (ls.map sT)).map _ = _; rw [ssOf_sT ls]; rfl
theorem strjoin_nil : ∀ ls : List (List Nat), Str.join ⟨#[]⟩ (ls.map fun l => (⟨l.toArray⟩ : Str)) = ⟨ls.flatten.toArray⟩
  | [] => rfl
  | [l] => by simp [Str.join]
  | l :: m :: ls => by
    have h := strjoin_nil (m :: ls)
    rw [List.map_cons] at h
    rw [List.map_cons, List.map_cons, Str.join, h]
    · show (⟨(l.toArray ++ #[]) ++ (m :: ls).flatten.toArray⟩ : Str) = _
      simp
    · simp
theorem lens_sT (ls : List (List Nat)) : ((ls.map fun l => (⟨l.toArray⟩ : Str)).map (·.length)).sum = ls.flatten.length := by
  rw [List.length_flatten, List.map_map]
  rfl
theorem gJoin_sT {ls : List (List Nat)} (h : ls.flatten.length ≤ 16777216) : gJoin (sT []) [.lst (ls.map sT)] = some (sT ls.flatten) := by
  show ((ssOf (ls.map sT)).bind _) = _
  rw [ssOf_sT]
  show (if _ then _ else none) = _
  rw [if_pos (by rw [lens_sT]; show _ + _ * 0 ≤ _; omega)]
  have e : Txt.join ⟨#[]⟩ (ls.map fun l => (⟨l.toArray⟩ : Str)) = ⟨ls.flatten.toArray⟩ := by
    rw [eq_of_beq (PyProof.Rows.join_closes (sep := ⟨#[]⟩) rfl), strjoin_nil]
  rw [e]; rfl
end FL
namespace FL
open PySem PySem.Spec L2
/-! ### the plain side: signs and tokens -/
def runL : List Nat := ("abcdefghijklmnopqrstuvwxyzABCDEFGHIJKLMNOPQRSTUVWXYZ0123456789" : Str).cps.toList
def isAl (c : Nat) : Bool := decide (c ∈ runL)
theorem run_s : (T.str "abcdefghijklmnopqrstuvwxyzABCDEFGHIJKLMNOPQRSTUVWXYZ0123456789") = sT runL := rfl
theorem lit_sp : (T.str " ") = sT [32] := congrArg T.str (by decide +kernel : (" " : Str) = ⟨#[32]⟩)
theorem lit_nl : (T.str "\n") = sT [10] := congrArg T.str (by decide +kernel : ("\n" : Str) = ⟨#[10]⟩)
theorem lit_mi : (T.str "-") = sT [45] := congrArg T.str (by decide +kernel : ("-" : Str) = ⟨#[45]⟩)
theorem lit_gt : (T.str ">") = sT [62] := congrArg T.str (by decide +kernel : (">" : Str) = ⟨#[62]⟩)
theorem lit_ar : (T.str "->") = sT [45, 62] := congrArg T.str (by decide +kernel : ("->" : Str) = ⟨#[45, 62]⟩)
theorem lit_po : (T.str "(") = sT [40] := congrArg T.str (by decide +kernel : ("(" : Str) = ⟨#[40]⟩)
theorem lit_pc : (T.str ")") = sT [41] := congrArg T.str (by decide +kernel : (")" : Str) = ⟨#[41]⟩)
theorem lit_ap : (T.str " \n()") = sT [32, 10, 40, 41] := congrArg T.str (by decide +kernel : (" \n()" : Str) = ⟨#[32, 10, 40, 41]⟩)
theorem runL_split : runL = ("abcdefghijklmnopqrstuvwxyz" : Str).cps.toList ++ (("ABCDEFGHIJKLMNOPQRSTUVWXYZ" : Str).cps.toList ++ ("0123456789" : Str).cps.toList) := by decide +kernel
theorem runs_on_e (c : Nat) : m_runs_on [sT [c]] = some (.ok (.bl (isAl c)) [sT [c]]) := by
  have e : isAl c = decide (c ∈ ("abcdefghijklmnopqrstuvwxyz" : Str).cps ∨ c ∈ ("ABCDEFGHIJKLMNOPQRSTUVWXYZ" : Str).cps ∨ c ∈ ("0123456789" : Str).cps) := by
    unfold isAl
    rw [runL_split]
    simp only [List.mem_append, Array.mem_toList_iff]
  simp [m_runs_on, str_eq, gIn_sT, e]
  by_cases h1 : c ∈ ("abcdefghijklmnopqrstuvwxyz" : Str).cps <;> by_cases h2 : c ∈ ("ABCDEFGHIJKLMNOPQRSTUVWXYZ" : Str).cps <;> simp [h1, h2]
theorem run_signs_e : m__law_run_signs [] = some (.ok (sT runL) []) := by
  simp [m__law_run_signs, run_s]
def isAp (c : Nat) : Bool := decide (c = 32) || (decide (c = 10) || (decide (c = 40) || decide (c = 41)))
theorem is_apart_e (c : Nat) : m_is_apart [sT [c]] = some (.ok (.bl (isAp c)) [sT [c]]) := by
  simp [m_is_apart, lit_sp, lit_nl, lit_po, lit_pc, isAp]
  by_cases h1 : c = 32 <;> by_cases h2 : c = 10 <;> by_cases h3 : c = 40 <;> simp [h1, h2, h3]

def len (l : List Nat) : Prop := l.length ≤ 1048576
theorem len.line {l : List Nat} (h : l.length ≤ 1048576) : l.length ≤ sizeLine := by
  have : sizeLine = 16777216 := rfl
  omega
theorem eor_loop {l : List Nat} (h : l.length ≤ 1048576) (a : Int) : ∀ n i, i + n = l.length →
    sWhile wc_end_of_run_1 wb_end_of_run_1 [sT l, .int a, .int (i : Nat)] = some (.ok .nx [sT l, .int a, .int ((i + ((l.drop i).takeWhile isAl).length : Nat))])
  | 0, i, e => by
    rw [sWhile_end (ρ1 := [sT l, .int a, .int (i : Nat)])]
    · rw [List.drop_of_length_le (by omega)]; simp
    · simp [wc_end_of_run_1, gLen_sT _ (len.line h), show ¬ i < l.length by omega]
  | n + 1, i, e => by
    have hi : i < l.length := by omega
    rw [List.drop_eq_getElem_cons hi]
    by_cases ha : isAl l[i] = true
    · rw [sWhile_nx (ρ1 := [sT l, .int a, .int (i : Nat)]) (ρ2 := [sT l, .int a, .int ((i + 1 : Nat))]), eor_loop h a n (i + 1) (by omega), List.takeWhile_cons_of_pos ha]
      · rw [List.length_cons, show i + 1 + (List.takeWhile isAl (l.drop (i + 1))).length = i + ((List.takeWhile isAl (l.drop (i + 1))).length + 1) by omega]
      · simp [wc_end_of_run_1, gLen_sT _ (len.line h), gIx_sT (len.line h) hi, hi, runs_on_e, ha]
      · simp [wb_end_of_run_1]
    · rw [sWhile_end (ρ1 := [sT l, .int a, .int (i : Nat)]), List.takeWhile_cons_of_neg ha]
      · simp
      · simp [wc_end_of_run_1, gLen_sT _ (len.line h), gIx_sT (len.line h) hi, hi, runs_on_e, ha]
theorem end_of_run_e {l : List Nat} (h : l.length ≤ 1048576) {i : Nat} (hi : i ≤ l.length) :
    m_end_of_run [sT l, .int i] = some (.ok (.int ((i + ((l.drop i).takeWhile isAl).length : Nat))) [sT l, .int i]) := by
  simp [m_end_of_run, eor_loop h i (l.length - i) i (by omega)]
theorem pt_loop {l : List Nat} (h : l.length ≤ 1048576) (f x y : T) : ∀ n i, i + n = l.length →
    sWhile wc_paper_tokens_1 wb_paper_tokens_1 [sT l, f, x, y, .int (i : Nat)] = some (.ok .nx [sT l, f, x, y, .int ((i + ((l.drop i).takeWhile (fun c => !isAp c)).length : Nat))])
  | 0, i, e => by
    rw [sWhile_end (ρ1 := [sT l, f, x, y, .int (i : Nat)])]
    · rw [List.drop_of_length_le (by omega)]; simp
    · simp [wc_paper_tokens_1, gLen_sT _ (len.line h), show ¬ i < l.length by omega]
  | n + 1, i, e => by
    have hi : i < l.length := by omega
    rw [List.drop_eq_getElem_cons hi]
    by_cases ha : isAp l[i] = true
    · rw [sWhile_end (ρ1 := [sT l, f, x, y, .int (i : Nat)]), List.takeWhile_cons_of_neg (by simp [ha])]
      · simp
      · simp [wc_paper_tokens_1, gLen_sT _ (len.line h), gIx_sT (len.line h) hi, hi, is_apart_e, ha]
    · rw [sWhile_nx (ρ1 := [sT l, f, x, y, .int (i : Nat)]) (ρ2 := [sT l, f, x, y, .int ((i + 1 : Nat))]), pt_loop h f x y n (i + 1) (by omega), List.takeWhile_cons_of_pos (by simp [ha])]
      · rw [List.length_cons, show ∀ k, i + 1 + k = i + (k + 1) by omega]
      · simp [wc_paper_tokens_1, gLen_sT _ (len.line h), gIx_sT (len.line h) hi, hi, is_apart_e, ha]
      · simp [wb_paper_tokens_1]
end FL
namespace FL
open PySem PySem.Spec L2
def sp (c : Nat) : Bool := decide (c = 32) || decide (c = 10)
def own (st : Nat → Nat → Bool) : Option Nat → List (List Nat) → List Nat → List (List Nat)
  | _, acc, [] => acc
  | p, acc, c :: l => if sp c = true then own st (some c) acc l
    else if (p.any fun q => st q c) = true then own st (some c) (acc.dropLast ++ [acc.getLastD [] ++ [c]]) l
    else own st (some c) (acc ++ [[c]]) l
def stT (q c : Nat) : Bool := if isAl q = true then isAl c else decide (q = 45) && decide (c = 62)
def stP (q c : Nat) : Bool := !isAp q && !isAp c
theorem own_sp {st p acc c l} (h : sp c = true) : own st p acc (c :: l) = own st (some c) acc l := by simp [own, h]
theorem own_new {st p acc c l} (h : sp c = false) (k : (p.any fun q => st q c) = false) : own st p acc (c :: l) = own st (some c) (acc ++ [[c]]) l := by simp [own, h, k]
theorem own_on {st p acc w c l} (h : sp c = false) (k : (p.any fun q => st q c) = true) : own st p (acc ++ [w]) (c :: l) = own st (some c) (acc ++ [w ++ [c]]) l := by simp [own, h, k, List.getLastD_eq_getLast?]
theorem own_run {st : Nat → Nat → Bool} {P : Nat → Bool} (hP : ∀ q, P q = true → sp q = false) (hs : ∀ q c, P q = true → st q c = P c) :
    ∀ (r : List Nat) (q : Nat) acc w, P q = true → ∃ q', P q' = true ∧ own st (some q) (acc ++ [w]) r = own st (some q') (acc ++ [w ++ r.takeWhile P]) (r.dropWhile P)
  | [], q, acc, w, h => ⟨q, h, by simp⟩
  | c :: r, q, acc, w, h => by
    by_cases hc : P c = true
    · obtain ⟨q', h', e⟩ := own_run hP hs r c acc (w ++ [c]) hc
      refine ⟨q', h', ?_⟩
      rw [own_on (hP c hc) (by simp [hs q c h, hc]), e, List.takeWhile_cons_of_pos hc, List.dropWhile_cons_of_pos hc]
      simp
    · exact ⟨q, h, by rw [List.takeWhile_cons_of_neg hc, List.dropWhile_cons_of_neg hc]; simp⟩
theorem isAl_sp {c : Nat} (h : isAl c = true) : sp c = false := by
  by_cases h1 : c = 32
  · subst h1; revert h; decide +kernel
  · by_cases h2 : c = 10
    · subst h2; revert h; decide +kernel
    · simp [sp, h1, h2]
theorem al_32 : isAl 32 = false := by decide +kernel
theorem al_10 : isAl 10 = false := by decide +kernel
theorem al_45 : isAl 45 = false := by decide +kernel
theorem al_62 : isAl 62 = false := by decide +kernel
theorem stT_sp {q c : Nat} (h : sp q = true) : stT q c = false := by
  have : q = 32 ∨ q = 10 := by simpa [sp] using h
  rcases this with rfl | rfl
  · simp [stT, al_32]
  · simp [stT, al_10]
theorem drop_len_takeWhile (P : Nat → Bool) : ∀ r : List Nat, r.drop (r.takeWhile P).length = r.dropWhile P
  | [] => rfl
  | c :: r => by
    by_cases h : P c = true
    · rw [List.takeWhile_cons_of_pos h, List.dropWhile_cons_of_pos h, List.length_cons, List.drop_succ_cons, drop_len_takeWhile]
    · rw [List.takeWhile_cons_of_neg h, List.dropWhile_cons_of_neg h]; rfl
theorem take_len_takeWhile (P : Nat → Bool) : ∀ r : List Nat, r.take (r.takeWhile P).length = r.takeWhile P
  | [] => rfl
  | c :: r => by
    by_cases h : P c = true
    · rw [List.takeWhile_cons_of_pos h, List.length_cons, List.take_succ_cons, take_len_takeWhile]
    · rw [List.takeWhile_cons_of_neg h]; rfl
theorem dropWhile_head {P : Nat → Bool} : ∀ {r : List Nat} {c : Nat}, (r.dropWhile P)[0]? = some c → P c = false
  | [], c, h => by simp at h
  | d :: r, c, h => by
    by_cases hd : P d = true
    · rw [List.dropWhile_cons_of_pos hd] at h; exact dropWhile_head h
    · rw [List.dropWhile_cons_of_neg hd] at h
      simp at h
      subst h
      simpa using hd
theorem tt_loop {l : List Nat} (h : l.length ≤ 1048576) : ∀ n i, l.length - i ≤ n → i ≤ l.length → ∀ (acc : List (List Nat)) (x y : T) (p : Option Nat),
    acc.length + (l.length - i) ≤ 1048576 →
    (∀ q c, p = some q → (l.drop i)[0]? = some c → sp c = true ∨ stT q c = false) →
    ∃ i' x' y', sWhile wc_task_tokens_1 wb_task_tokens_1 [sT l, .lst (acc.map sT), .int (i : Nat), x, y] = some (.ok .nx [sT l, .lst ((own stT p acc (l.drop i)).map sT), i', x', y'])
  | n, i, hn, hi, acc, x, y, p, ha, hp => by
    by_cases hl : i < l.length
    · obtain ⟨n, rfl⟩ : ∃ m, n = m + 1 := ⟨n - 1, by omega⟩
      have hw : wc_task_tokens_1 [sT l, .lst (acc.map sT), .int (i : Nat), x, y] = some (.ok true [sT l, .lst (acc.map sT), .int (i : Nat), x, y]) := by
        simp [wc_task_tokens_1, gLen_sT _ (len.line h), hl]
      have hd := List.drop_eq_getElem_cons hl
      have hsz : acc.length < sizeLine := by have : sizeLine = 16777216 := rfl; omega
      rw [hd]
      rw [hd] at hp
      generalize ec : l[i] = c at *
      by_cases h1 : sp c = true
      · have hb : wb_task_tokens_1 [sT l, .lst (acc.map sT), .int (i : Nat), x, y] = some (.ok .nx [sT l, .lst (acc.map sT), .int ((i + 1 : Nat)), sT [c], y]) := by
          have h1' : c = 32 ∨ c = 10 := by simpa [sp] using h1
          rcases h1' with rfl | rfl <;> simp [wb_task_tokens_1, gIx_sT (len.line h) hl, ec, lit_sp, lit_nl]
        rw [sWhile_nx hw hb, own_sp h1]
        exact tt_loop h n (i + 1) (by omega) (by omega) acc _ _ _ (by omega) fun q c' e _ => .inr (by cases e; exact stT_sp h1)
      · have h1' : c ≠ 32 ∧ c ≠ 10 := by simpa [sp] using h1
        have hst : (p.any fun q => stT q c) = false := by
          cases p with
          | none => rfl
          | some q => exact (hp q c rfl rfl).resolve_left h1
        by_cases h2 : isAl c = true
        · have hb : wb_task_tokens_1 [sT l, .lst (acc.map sT), .int (i : Nat), x, y] = some (.ok .nx [sT l, .lst ((acc ++ [(l.drop i).takeWhile isAl]).map sT), .int ((i + ((l.drop i).takeWhile isAl).length : Nat)), sT [c], .int ((i + ((l.drop i).takeWhile isAl).length : Nat))]) := by
            have hsl := gSl_sT (i := i) (j := i + ((l.drop i).takeWhile isAl).length) (len.line h)
            rw [Nat.add_sub_cancel_left, take_len_takeWhile] at hsl
            simp only [Int.natCast_add] at hsl
            simp [wb_task_tokens_1, gIx_sT (len.line h) hl, ec, lit_sp, lit_nl, h1', runs_on_e, h2, end_of_run_e h hi, hsl, hsz]
          rw [sWhile_nx hw hb, own_new (by simpa using h1) hst]
          obtain ⟨q', hq', e⟩ := own_run (st := stT) (P := isAl) (fun q hq => isAl_sp hq) (fun q d hq => by simp [stT, hq]) (l.drop (i + 1)) c acc [c] h2
          rw [e]
          have e1 : [c] ++ (l.drop (i + 1)).takeWhile isAl = (l.drop i).takeWhile isAl := by rw [hd, List.takeWhile_cons_of_pos h2]; rfl
          have e2 : (l.drop (i + 1)).dropWhile isAl = l.drop (i + ((l.drop i).takeWhile isAl).length) := by
            rw [show l.drop (i + ((l.drop i).takeWhile isAl).length) = (l.drop i).drop ((l.drop i).takeWhile isAl).length from List.drop_drop.symm, drop_len_takeWhile, hd, List.dropWhile_cons_of_pos h2]
          have k1 : 0 < ((l.drop i).takeWhile isAl).length := by rw [← e1]; simp
          have k2 : i + ((l.drop i).takeWhile isAl).length ≤ l.length := by
            have := (List.takeWhile_prefix isAl (l := l.drop i)).length_le
            rw [List.length_drop] at this
            omega
          rw [e1, e2]
          refine tt_loop h n _ (by omega) k2 _ _ _ _ (by simp; omega) fun q d eq hd' => ?_
          cases eq
          rw [← e2] at hd'
          exact .inr (by simp [stT, hq', dropWhile_head hd'])
        · have h2' : isAl c = false := by simpa using h2
          have hsl : gSl (sT l) (some (i : Int)) (some ((i : Int) + 2)) = some (sT ((l.drop i).take 2)) := by
            have := gSl_sT (i := i) (j := i + 2) (len.line h)
            rw [Nat.add_sub_cancel_left] at this
            simpa using this
          by_cases h3 : (l.drop i).take 2 = [45, 62]
          · have hb : wb_task_tokens_1 [sT l, .lst (acc.map sT), .int (i : Nat), x, y] = some (.ok .nx [sT l, .lst ((acc ++ [[45, 62]]).map sT), .int ((i + 2 : Nat)), sT [c], y]) := by
              simp [wb_task_tokens_1, gIx_sT (len.line h) hl, ec, lit_sp, lit_nl, h1', runs_on_e, h2', hsl, hsz, lit_ar, h3]
            rw [sWhile_nx hw hb, own_new (by simpa using h1) hst]
            rw [hd] at h3
            have hl2 : i + 1 < l.length := by
              rcases Nat.lt_or_ge (i + 1) l.length with hh | hh
              · exact hh
              · rw [List.drop_of_length_le hh] at h3; simp at h3
            have hd2 := List.drop_eq_getElem_cons hl2
            rw [hd2] at h3 ⊢
            have h3' : c = 45 ∧ l[i + 1] = 62 := by
              simp only [List.take_succ_cons, List.cons.injEq] at h3
              exact ⟨h3.1, h3.2.1⟩
            rw [h3'.1, h3'.2, own_on (by decide) (by simp [stT, al_45])]
            refine tt_loop h n (i + 2) (by omega) (by omega) _ _ _ _ (by simp; omega) fun q d eq _ => ?_
            cases eq
            exact .inr (by simp [stT, al_62])
          · have hb : wb_task_tokens_1 [sT l, .lst (acc.map sT), .int (i : Nat), x, y] = some (.ok .nx [sT l, .lst ((acc ++ [[c]]).map sT), .int ((i + 1 : Nat)), sT [c], y]) := by
              simp [wb_task_tokens_1, gIx_sT (len.line h) hl, ec, lit_sp, lit_nl, h1', runs_on_e, h2', hsl, hsz, lit_ar, h3]
            rw [sWhile_nx hw hb, own_new (by simpa using h1) hst]
            refine tt_loop h n (i + 1) (by omega) (by omega) _ _ _ _ (by simp; omega) fun q d eq hd' => ?_
            cases eq
            refine .inr ?_
            simp only [stT, h2', Bool.false_eq_true, if_false]
            by_cases h4 : c = 45 ∧ d = 62
            · exfalso
              apply h3
              rw [hd]
              cases hr : l.drop (i + 1) with
              | nil => rw [hr] at hd'; simp at hd'
              | cons z zs =>
                rw [hr] at hd'
                simp at hd'
                simp [h4.1, hd', h4.2]
            · simpa using fun e => fun e2 => h4 ⟨e, e2⟩
    · have he : i = l.length := by omega
      refine ⟨.int (i : Nat), x, y, ?_⟩
      rw [sWhile_end (ρ1 := [sT l, .lst (acc.map sT), .int (i : Nat), x, y]), List.drop_of_length_le (by omega)]
      · simp [own]
      · simp [wc_task_tokens_1, gLen_sT _ (len.line h), hl]
theorem task_tokens_e {l : List Nat} (h : l.length ≤ 1048576) : m_task_tokens [sT l] = some (.ok (.tup ((own stT none [] l).map sT)) [sT l]) := by
  obtain ⟨i', x', y', e⟩ := tt_loop h l.length 0 (by omega) (by omega) [] .unb .unb none (by simp; omega) (fun _ _ e => by cases e)
  simp at e
  simp [m_task_tokens, e]
end FL
namespace FL
open PySem PySem.Spec L2
theorem ap_sp {c : Nat} (h : sp c = true) : isAp c = true := by
  have : c = 32 ∨ c = 10 := by simpa [sp] using h
  rcases this with rfl | rfl <;> decide
theorem nap_sp {c : Nat} (h : (!isAp c) = true) : sp c = false := by
  cases hs : sp c with
  | false => rfl
  | true => rw [ap_sp hs] at h; cases h
theorem pp_loop {l : List Nat} (h : l.length ≤ 1048576) : ∀ n i, l.length - i ≤ n → i ≤ l.length → ∀ (acc : List (List Nat)) (x y : T) (p : Option Nat),
    acc.length + (l.length - i) ≤ 1048576 →
    (∀ q c, p = some q → (l.drop i)[0]? = some c → stP q c = false) →
    ∃ i' x' y', sWhile wc_paper_tokens_2 wb_paper_tokens_2 [sT l, .lst (acc.map sT), .int (i : Nat), x, y] = some (.ok .nx [sT l, .lst ((own stP p acc (l.drop i)).map sT), i', x', y'])
  | n, i, hn, hi, acc, x, y, p, ha, hp => by
    by_cases hl : i < l.length
    · obtain ⟨n, rfl⟩ : ∃ m, n = m + 1 := ⟨n - 1, by omega⟩
      have hw : wc_paper_tokens_2 [sT l, .lst (acc.map sT), .int (i : Nat), x, y] = some (.ok true [sT l, .lst (acc.map sT), .int (i : Nat), x, y]) := by
        simp [wc_paper_tokens_2, gLen_sT _ (len.line h), hl]
      have hd := List.drop_eq_getElem_cons hl
      have hsz : acc.length < sizeLine := by have : sizeLine = 16777216 := rfl; omega
      rw [hd]
      rw [hd] at hp
      generalize ec : l[i] = c at *
      by_cases h1 : sp c = true
      · have hb : wb_paper_tokens_2 [sT l, .lst (acc.map sT), .int (i : Nat), x, y] = some (.ok .nx [sT l, .lst (acc.map sT), .int ((i + 1 : Nat)), sT [c], y]) := by
          have h1' : c = 32 ∨ c = 10 := by simpa [sp] using h1
          rcases h1' with rfl | rfl <;> simp [wb_paper_tokens_2, gIx_sT (len.line h) hl, ec, lit_sp, lit_nl]
        rw [sWhile_nx hw hb, own_sp h1]
        exact pp_loop h n (i + 1) (by omega) (by omega) acc _ _ _ (by omega) fun q c' e _ => by cases e; simp [stP, ap_sp h1]
      · have h1' : c ≠ 32 ∧ c ≠ 10 := by simpa [sp] using h1
        have hst : (p.any fun q => stP q c) = false := by
          cases p with
          | none => rfl
          | some q => exact hp q c rfl rfl
        by_cases h2 : isAp c = true
        · have hb : wb_paper_tokens_2 [sT l, .lst (acc.map sT), .int (i : Nat), x, y] = some (.ok .nx [sT l, .lst ((acc ++ [[c]]).map sT), .int ((i + 1 : Nat)), sT [c], y]) := by
            have h2' : c = 40 ∨ c = 41 := by
              simp only [isAp, h1', decide_false, Bool.false_or] at h2
              simpa using h2
            rcases h2' with rfl | rfl <;> simp [wb_paper_tokens_2, gIx_sT (len.line h) hl, ec, lit_sp, lit_nl, lit_po, lit_pc, hsz]
          rw [sWhile_nx hw hb, own_new (by simpa using h1) hst]
          exact pp_loop h n (i + 1) (by omega) (by omega) _ _ _ _ (by simp; omega) fun q d eq hd' => by cases eq; simp [stP, h2]
        · have h2' : isAp c = false := by simpa using h2
          have h2a : (!isAp c) = true := by simp [h2']
          have h2b : c ≠ 40 ∧ c ≠ 41 := by
            simp only [isAp, h1', decide_false, Bool.false_or] at h2'
            simpa using h2'
          have hb : wb_paper_tokens_2 [sT l, .lst (acc.map sT), .int (i : Nat), x, y] = some (.ok .nx [sT l, .lst ((acc ++ [(l.drop i).takeWhile fun c => !isAp c]).map sT), .int ((i + ((l.drop i).takeWhile fun c => !isAp c).length : Nat)), sT [c], .int ((i + ((l.drop i).takeWhile fun c => !isAp c).length : Nat))]) := by
            have hsl := gSl_sT (i := i) (j := i + ((l.drop i).takeWhile fun c => !isAp c).length) (len.line h)
            rw [Nat.add_sub_cancel_left, take_len_takeWhile] at hsl
            have hloop := pt_loop h (.lst (acc.map sT)) (.int (i : Nat)) (sT [c]) (l.length - i) i (by omega)
            generalize ((l.drop i).takeWhile fun c => !isAp c) = w at *
            simp only [Int.natCast_add] at hsl hloop
            simp [wb_paper_tokens_2, gIx_sT (len.line h) hl, ec, lit_sp, lit_nl, lit_po, lit_pc, h1', h2b, hloop, hsl, hsz]
          rw [sWhile_nx hw hb, own_new (by simpa using h1) hst]
          obtain ⟨q', hq', e⟩ := own_run (st := stP) (P := fun c => !isAp c) (fun q hq => nap_sp hq) (fun q d hq => by show (!isAp q && !isAp d) = _; rw [hq]; rfl) (l.drop (i + 1)) c acc [c] h2a
          rw [e]
          have e1 : [c] ++ (l.drop (i + 1)).takeWhile (fun c => !isAp c) = (l.drop i).takeWhile fun c => !isAp c := by rw [hd, List.takeWhile_cons_of_pos (p := fun c => !isAp c) h2a]; rfl
          have e2 : (l.drop (i + 1)).dropWhile (fun c => !isAp c) = l.drop (i + ((l.drop i).takeWhile fun c => !isAp c).length) := by
            rw [show l.drop (i + ((l.drop i).takeWhile fun c => !isAp c).length) = (l.drop i).drop ((l.drop i).takeWhile fun c => !isAp c).length from List.drop_drop.symm, drop_len_takeWhile, hd, List.dropWhile_cons_of_pos (p := fun c => !isAp c) h2a]
          have k1 : 0 < ((l.drop i).takeWhile fun c => !isAp c).length := by rw [← e1]; simp
          have k2 : i + ((l.drop i).takeWhile fun c => !isAp c).length ≤ l.length := by
            have := (List.takeWhile_prefix (fun c => !isAp c) (l := l.drop i)).length_le
            rw [List.length_drop] at this
            omega
          rw [e1, e2]
          refine pp_loop h n _ (by omega) k2 _ _ _ _ (by simp; omega) fun q d eq hd' => ?_
          cases eq
          rw [← e2] at hd'
          have := dropWhile_head hd'
          show (!isAp q' && !isAp d) = false
          simp at this
          simp [this]
    · have he : i = l.length := by omega
      refine ⟨.int (i : Nat), x, y, ?_⟩
      rw [sWhile_end (ρ1 := [sT l, .lst (acc.map sT), .int (i : Nat), x, y]), List.drop_of_length_le (by omega)]
      · simp [own]
      · simp [wc_paper_tokens_2, gLen_sT _ (len.line h), hl]
theorem paper_tokens_e {l : List Nat} (h : l.length ≤ 1048576) : m_paper_tokens [sT l] = some (.ok (.tup ((own stP none [] l).map sT)) [sT l]) := by
  obtain ⟨i', x', y', e⟩ := pp_loop h l.length 0 (by omega) (by omega) [] .unb .unb none (by simp; omega) (fun _ _ e => by cases e)
  simp at e
  simp [m_paper_tokens, e]
/-! ### the law's own tokens -/
def stk (k : Bool) : Nat → Nat → Bool := if k = true then stP else stT
theorem sticks_e (q c : Nat) (k : Bool) : m__law_sticks [sT [q], sT [c], .bl k] = some (.ok (.bl (stk k q c)) [sT [q], sT [c], .bl k]) := by
  have e40 : ∀ c, decide (c ∈ [32, 10, 40, 41]) = isAp c := fun c => by
    by_cases h1 : c = 32 <;> by_cases h2 : c = 10 <;> by_cases h3 : c = 40 <;> simp [isAp, h1, h2, h3]
  cases k
  · by_cases h : q ∈ runL
    · simp [m__law_sticks, run_signs_e, gIn_sT, stk, stT, isAl, h]
    · by_cases h2 : q = 45
      · subst h2
        simp [m__law_sticks, run_signs_e, gIn_sT, stk, stT, isAl, h, lit_mi, lit_gt]
      · simp [m__law_sticks, run_signs_e, gIn_sT, stk, stT, isAl, h, lit_mi, lit_gt, h2]
  · by_cases h1 : q = 32 <;> by_cases h2 : q = 10 <;> by_cases h3 : q = 40 <;> by_cases h4 : q = 41 <;> simp [m__law_sticks, gNotIn_sT, lit_ap, stk, stP, isAp, h1, h2, h3, h4]
theorem stk_sp {k : Bool} {q c : Nat} (h : stk k q c = true) : sp q = false := by
  cases hs : sp q with
  | false => rfl
  | true =>
    cases k
    · have : stT q c = true := h
      rw [stT_sp hs] at this; cases this
    · have : stP q c = true := h
      simp [stP, ap_sp hs] at this
def prev (l : List Nat) (i : Nat) : Option Nat := if i = 0 then none else l[i - 1]?
theorem own_loop {l : List Nat} {k : Bool} (h : l.length ≤ 1048576) : ∀ n i, i + n = l.length → ∀ (acc : List (List Nat)) (x y z : T),
    acc.length + n ≤ 1048576 → (∀ q, prev l i = some q → sp q = false → acc ≠ []) → (∀ t ∈ acc, t.length ≤ i) →
    ∃ x' y' z', forL chk1 (gSet 3) fb__law_own_tokens_1 (rangeT i n) [sT l, .bl k, .lst (acc.map sT), x, y, z] = some (.ok .nx [sT l, .bl k, .lst ((own (stk k) (prev l i) acc (l.drop i)).map sT), x', y', z'])
  | 0, i, e, acc, x, y, z, ha, hp, hw => ⟨x, y, z, by rw [rangeT_zero, forL_nil rfl, List.drop_of_length_le (by omega)]; cases prev l i <;> rfl⟩
  | n + 1, i, e, acc, x, y, z, ha, hp, hw => by
    have hl : i < l.length := by omega
    have hd := List.drop_eq_getElem_cons hl
    have hpr : prev l (i + 1) = some l[i] := by simp [prev, hl]
    have hg : gSet 3 (.int (i : Nat)) [sT l, .bl k, .lst (acc.map sT), x, y, z] = some (.ok () [sT l, .bl k, .lst (acc.map sT), .int (i : Nat), y, z]) := by simp [gSet]
    have hsz : acc.length < sizeLine := by have : sizeLine = 16777216 := rfl; omega
    rw [rangeT_succ, hd]
    generalize ec : l[i] = c at *
    by_cases h1 : sp c = true
    · have hb : fb__law_own_tokens_1 [sT l, .bl k, .lst (acc.map sT), .int (i : Nat), y, z] = some (.ok .ct [sT l, .bl k, .lst (acc.map sT), .int (i : Nat), sT [c], z]) := by
        have h1' : c = 32 ∨ c = 10 := by simpa [sp] using h1
        rcases h1' with rfl | rfl <;> simp [fb__law_own_tokens_1, gIx_sT (len.line h) hl, ec, lit_sp, lit_nl]
      rw [forL_ct rfl hg hb, own_sp h1, ← hpr]
      exact own_loop h n (i + 1) (by omega) acc _ _ _ (by omega) (fun q hq hs => by
        rw [hpr] at hq; cases hq; rw [h1] at hs; cases hs)
        (fun t m => Nat.le_succ_of_le (hw t m))
    · have h1' : c ≠ 32 ∧ c ≠ 10 := by simpa [sp] using h1
      by_cases hst : ((prev l i).any fun q => stk k q c) = true
      · have hi0 : i ≠ 0 := by intro e0; simp [prev, e0] at hst
        have hq : prev l i = some (l[i - 1]'(by omega)) := by simp only [prev, hi0, if_false]; exact List.getElem?_eq_getElem (by omega)
        have hl1 : i - 1 < l.length := by omega
        rw [hq] at hst hp
        have hne := hp _ rfl (stk_sp hst)
        obtain ⟨a, w, rfl⟩ : ∃ a w, acc = a ++ [w] := ⟨acc.dropLast, acc.getLast hne, (List.dropLast_concat_getLast hne).symm⟩
        have hb : fb__law_own_tokens_1 [sT l, .bl k, .lst ((a ++ [w]).map sT), .int (i : Nat), y, z] = some (.ok .nx [sT l, .bl k, .lst ((a ++ [w ++ [c]]).map sT), .int (i : Nat), sT [c], .int (a.length : Nat)]) := by
          have hix := gIx_sT (len.line h) hl1
          have hc1 : ((i - 1 : Nat) : Int) = (i : Int) - 1 := by omega
          rw [hc1] at hix
          have hwl := hw w (by simp)
          have hat : atI (List.map sT a ++ [sT w]) (a.length : Int) = some (sT w) := by
            rw [atI_ok (by omega) (by simp; omega)]
            simp
          have hixn : ixN (a.length + 1) (a.length : Int) = some a.length := by rw [ixN_ok (by omega) (by omega)]; simp
          have hset : ∀ v, (List.map sT a ++ [sT w]).set a.length v = List.map sT a ++ [v] := fun v => by
            rw [List.set_append_right _ _ (by simp)]
            simp
          have hadd := gAdd_sT (a := w) (b := [c]) (by have : sizeLine = 16777216 := rfl; simp; omega)
          have hst2 : stk k l[i - 1] c = true := by simpa using hst
          simp [fb__law_own_tokens_1, gIx_sT (len.line h) hl, ec, lit_sp, lit_nl, h1', hix, sticks_e, hst2, show 0 < i by omega, hat, hixn, hset, hadd]
        rw [forL_nx rfl hg hb, hq, own_on (by simpa using h1) hst, ← hpr]
        exact own_loop h n (i + 1) (by omega) _ _ _ _ (by simp at ha ⊢; omega) (fun q _ _ => by simp) fun t m => by
          rcases List.mem_append.mp m with m | m
          · exact Nat.le_succ_of_le (hw t (by simp [m]))
          · have := hw w (by simp)
            simp at m
            subst m
            simp
            omega
      · have hst' : ((prev l i).any fun q => stk k q c) = false := by simpa using hst
        have hb : fb__law_own_tokens_1 [sT l, .bl k, .lst (acc.map sT), .int (i : Nat), y, z] = some (.ok .nx [sT l, .bl k, .lst ((acc ++ [[c]]).map sT), .int (i : Nat), sT [c], z]) := by
          by_cases hi0 : i = 0
          · subst hi0
            have h0 : gIx (sT l) (.int 0) = some (sT [c]) := by have := gIx_sT (len.line h) hl; rw [ec] at this; exact this
            simp [fb__law_own_tokens_1, h0, lit_sp, lit_nl, h1', hsz]
          · have hq : prev l i = some (l[i - 1]'(by omega)) := by simp only [prev, hi0, if_false]; exact List.getElem?_eq_getElem (by omega)
            have hl1 : i - 1 < l.length := by omega
            rw [hq] at hst'
            have hix := gIx_sT (len.line h) hl1
            have hc1 : ((i - 1 : Nat) : Int) = (i : Int) - 1 := by omega
            rw [hc1] at hix
            simp at hst'
            simp [fb__law_own_tokens_1, gIx_sT (len.line h) hl, ec, lit_sp, lit_nl, h1', hsz, hix, sticks_e, hst', show 0 < i by omega]
        rw [forL_nx rfl hg hb, own_new (by simpa using h1) hst', ← hpr]
        exact own_loop h n (i + 1) (by omega) _ _ _ _ (by simp; omega) (fun q _ _ => by simp) fun t m => by
          rcases List.mem_append.mp m with m | m
          · exact Nat.le_succ_of_le (hw t m)
          · simp at m
            subst m
            simp
theorem own_tokens_e {l : List Nat} {k : Bool} (h : l.length ≤ 1048576) : m__law_own_tokens [sT l, .bl k] = some (.ok (.lst ((own (stk k) none [] l).map sT)) [sT l, .bl k]) := by
  obtain ⟨x', y', z', e⟩ := own_loop (k := k) h l.length 0 (by omega) [] .unb .unb .unb (by simp; omega) (fun q e => by simp [prev] at e) (fun t m => by cases m)
  have hp : prev l 0 = none := rfl
  have hb := big62_nat (n := l.length) (by omega)
  simp [hp] at e
  simp [m__law_own_tokens, gLen_sT _ (len.line h), hb, e]
/-- the tokens are good texts -/
theorem own_all {st : Nat → Nat → Bool} {P : Nat → Prop} : ∀ (l : List Nat) p acc, (∀ c ∈ l, P c) → (∀ t ∈ acc, ∀ c ∈ t, P c) → ∀ t ∈ own st p acc l, ∀ c ∈ t, P c
  | [], p, acc, _, h2 => by cases p <;> exact h2
  | c :: l, p, acc, h1, h2 => by
    unfold own
    have hl : ∀ d ∈ l, P d := fun d m => h1 d (List.mem_cons_of_mem _ m)
    have hc : P c := h1 c List.mem_cons_self
    split
    · exact own_all l _ acc hl h2
    · split
      · refine own_all l _ _ hl fun t m d md => ?_
        rcases List.mem_append.mp m with m | m
        · exact h2 t (List.dropLast_subset _ m) d md
        · simp only [List.mem_singleton] at m
          subst m
          rcases List.mem_append.mp md with md | md
          · by_cases hne : acc = []
            · subst hne; cases md
            · rw [List.getLastD_eq_getLast?, List.getLast?_eq_some_getLast hne] at md
              exact h2 _ (List.getLast_mem hne) d md
          · simp only [List.mem_singleton] at md
            subst md
            exact hc
      · refine own_all l _ _ hl fun t m d md => ?_
        rcases List.mem_append.mp m with m | m
        · exact h2 t m d md
        · simp only [List.mem_singleton] at m
          subst m
          simp only [List.mem_singleton] at md
          subst md
          exact hc
end FL
namespace FL
open PySem PySem.Spec L2
theorem own_len {st : Nat → Nat → Bool} : ∀ (l : List Nat) p acc, (own st p acc l).length ≤ acc.length + l.length
  | [], p, acc => by cases p <;> simp [own]
  | c :: l, p, acc => by
    unfold own
    split
    · have := own_len (st := st) l (some c) acc
      simp; omega
    · split
      · have := own_len (st := st) l (some c) (acc.dropLast ++ [acc.getLastD [] ++ [c]])
        simp at this ⊢; omega
      · have := own_len (st := st) l (some c) (acc ++ [[c]])
        simp at this ⊢; omega
theorem own_ok {st : Nat → Nat → Bool} {l : List Nat} (h : okC l = true) : (own st none [] l).all okC = true := by
  simp only [okC, List.all_eq_true, decide_eq_true_eq] at h ⊢
  exact own_all (P := fun c => c < 0x110000) l none [] h (fun t m => by cases m)
theorem right_loop {l : List Nat} (h : l.length ≤ 1048576) (hc : okC l = true) (k : Bool) (x y z : T) :
    fb__law_split_right_1 [sT l, .bl k, x, y, .unb] = some (.ok .nx [sT l, .bl k, .lst ((own (stk k) none [] l).map sT), .tup ((own (stk k) none [] l).map sT), .unb]) := by
  have hcomp : ∀ ls : List (List Nat), ls.length ≤ sizeLine → compM [4] (gSet 4) (M.pure true) ce__law_split_right_1 (ls.map sT, chk1) [sT l, .bl k, .lst (ls.map sT), .tup (ls.map sT), .unb] = some (.ok (.lst ((ls.map sT).map fun _ => .bl true)) [sT l, .bl k, .lst (ls.map sT), .tup (ls.map sT), .unb]) := fun ls hl => by
    refine compM_map (fun _ => .bl true) (by simp [okW]) (by simpa using hl) rfl fun x m => ?_
    obtain ⟨w, _, rfl⟩ := List.mem_map.mp m
    refine ⟨(), [sT l, .bl k, .lst (ls.map sT), .tup (ls.map sT), sT w], [sT l, .bl k, .lst (ls.map sT), .tup (ls.map sT), sT w], ?_, rfl, ?_, rfl, ?_⟩
    · simp [wipeT, gSet]
    · simp [ce__law_split_right_1]
    · simp [wipeT]
  have hs := own_ok (st := stk k) hc
  have hn := own_len (st := stk k) l none []
  have hne := gNe_strs hs
  have hcl := hcomp (own (stk k) none [] l) (by have : sizeLine = 16777216 := rfl; simp at hn; omega)
  cases k
  · have ht : stk false = stT := rfl
    have hot := own_tokens_e (k := false) h
    rw [ht] at hot hcl hne ⊢
    rw [List.map_map, show ((fun _ => T.bl true) ∘ sT) = fun _ => T.bl true from rfl] at hcl
    simp [fb__law_split_right_1, hot, task_tokens_e h, hcl, gAll_true, hne]
  · have ht : stk true = stP := rfl
    have hot := own_tokens_e (k := true) h
    rw [ht] at hot hcl hne ⊢
    rw [List.map_map, show ((fun _ => T.bl true) ∘ sT) = fun _ => T.bl true from rfl] at hcl
    simp [fb__law_split_right_1, hot, paper_tokens_e h, hcl, gAll_true, hne]
theorem split_right_e {l : List Nat} (h : l.length ≤ 1048576) (hc : okC l = true) : m__law_split_right [sT l] = some (.ok (.bl true) [sT l]) := by
  have h1 := right_loop h hc false
  have h2 := right_loop h hc true
  have hf : forL chk1 (gSet 1) fb__law_split_right_1 [.bl false, .bl true] [sT l, .unb, .unb, .unb, .unb] = some (.ok .nx [sT l, .bl true, .lst ((own (stk true) none [] l).map sT), .tup ((own (stk true) none [] l).map sT), .unb]) := by
    rw [forL_nx (u := ()) (ρ1 := [sT l, .bl false, .unb, .unb, .unb]) rfl (by simp [gSet]) (h1 _ _ .unb)]
    rw [forL_nx (u := ()) (ρ1 := [sT l, .bl true, .lst ((own (stk false) none [] l).map sT), .tup ((own (stk false) none [] l).map sT), .unb]) rfl (by simp [gSet]) (h2 _ _ .unb), forL_nil rfl]
  simp [m__law_split_right, hf]
end FL
namespace FL
open PySem PySem.Spec L2
/-! ### the law's own draws -/
/-- the law's state of draws -/
def IsD (xs : List T) : Prop := ∃ (cells : List Int) (a b c e : Int), 0 ≤ a ∧ xs = [.fro (cells.map .int), .int a, .int b, .int c, .int e]
theorem pow_18 : powOk 10 18 = true := by decide
theorem pow_6000 : powOk 1 6000 = true := by decide
theorem mod_6000 (x : Int) : modOk x (2 ^ 6000) = true := modOk_s _ _ (Int.pow_pos (by decide))
theorem draw_e {xs : List T} {k : Int} (h : IsD xs) (hk : 0 < k) (hk2 : k < 1073741824) :
    ∃ r ys, IsD ys ∧ 0 ≤ r ∧ r < k ∧ m__law_draw [.lst xs, .int k] = some (.ok (.int r) [.lst ys, .int k]) := by
  obtain ⟨cells, a, b, c, e, ha, rfl⟩ := h
  have hm : ∀ x, modOk x k = true := fun x => modOk_s x k hk
  have hd : ∀ x, divOk x k = true := fun x => divOk_s x k hk hk2
  have hr : ∀ x : Int, 0 ≤ x % k ∧ x % k < k := fun x => ⟨Int.emod_nonneg _ (by omega), Int.emod_lt_of_pos _ hk⟩
  have h18 := pow_18
  have h60 := pow_6000
  have h61 := mod_6000
  suffices hs : ∃ r a' b' c', m__law_draw [.lst [.fro (cells.map .int), .int a, .int b, .int c, .int e], .int k] = some (.ok (.int r) [.lst [.fro (cells.map .int), .int a', .int b', .int c', .int e], .int k]) ∧ 0 ≤ r ∧ r < k ∧ 0 ≤ a' by
    obtain ⟨r, a', b', c', e1, h0, h1, h2⟩ := hs
    exact ⟨r, _, ⟨cells, a', b', c', e, h2, rfl⟩, h0, h1, e1⟩
  by_cases hb : 0 < b
  · simp [m__law_draw, ixN, hm, hd, hb]
    exact ⟨_, _, ⟨rfl, rfl⟩, (hr b).1, (hr b).2, ha⟩
  · by_cases hl : a < cells.length
    · have hv : atI (cells.map T.int) a = some (.int (cells[a.toNat]'(by omega))) := by
        rw [atI_ok ha (by simpa using hl), List.getElem?_map, List.getElem?_eq_getElem (by omega)]
        rfl
      generalize cells[a.toNat]'(by omega) = v at hv
      by_cases hs : 2000000000000000000 ≤ 2 * (if v < 0 then -v else v) + (if v < 0 then 1 else 0)
      · simp [m__law_draw, ixN, hm, hd, hb, hl, hv, hs, h18, h60, h61]
        exact ⟨_, _, ⟨rfl, rfl⟩, (hr _).1, (hr _).2, by omega⟩
      · simp [m__law_draw, ixN, hm, hd, hb, hl, hv, hs, h18]
        exact ⟨_, _, ⟨rfl, rfl⟩, (hr _).1, (hr _).2, by omega⟩
    · simp [m__law_draw, ixN, hm, hd, hb, hl, h18]
      exact ⟨_, _, ⟨rfl, rfl⟩, (hr _).1, (hr _).2, by omega⟩
theorem pick_s {xs : List T} {l : List Nat} (h : IsD xs) (h0 : 0 < l.length) (h1 : l.length < 1000000) :
    ∃ c ys, IsD ys ∧ c ∈ l ∧ m__law_pick [.lst xs, sT l] = some (.ok (sT [c]) [.lst ys, sT l]) := by
  obtain ⟨r, ys, hy, r0, r1, e⟩ := draw_e h (k := l.length) (by omega) (by omega)
  have hr : r.toNat < l.length := by omega
  have hx := gIx_sT (l := l) (i := r.toNat) (len.line (by omega)) hr
  rw [Int.toNat_of_nonneg r0] at hx
  refine ⟨l[r.toNat], ys, hy, List.getElem_mem hr, ?_⟩
  simp [m__law_pick, gLen_sT _ (len.line (by omega : l.length ≤ 1048576)), e, hx]
theorem pick_l {xs ts : List T} (h : IsD xs) (h0 : 0 < ts.length) (h1 : ts.length < 1000000) :
    ∃ t ys, IsD ys ∧ t ∈ ts ∧ ((∀ x, x ∈ ts → isU x = false) → m__law_pick [.lst xs, .lst ts] = some (.ok t [.lst ys, .lst ts])) := by
  obtain ⟨r, ys, hy, r0, r1, e⟩ := draw_e h (k := ts.length) (by omega) (by omega)
  have hr : r.toNat < ts.length := by omega
  have hx : atI ts r = some ts[r.toNat] := by rw [atI_ok r0 (by omega), List.getElem?_eq_getElem hr]
  refine ⟨ts[r.toNat], ys, hy, List.getElem_mem hr, fun hu => ?_⟩
  have := hu _ (List.getElem_mem hr)
  simp [m__law_pick, e, hx, this]
/-- a good text of at most n signs -/
def okT (n : Nat) (l : List Nat) : Prop := l.length ≤ n ∧ okC l = true
def goodT (n : Nat) : T → Bool
  | .str z => decide (z.cps.size ≤ n) && z.cps.toList.all (· < 0x110000)
  | _ => false
theorem goodT_ok {n : Nat} : ∀ {t : T}, goodT n t = true → ∃ l, t = sT l ∧ okT n l
  | .str z, h => by
    simp only [goodT, Bool.and_eq_true, decide_eq_true_eq] at h
    exact ⟨z.cps.toList, rfl, by simpa using h.1, h.2⟩
theorem pick_t {xs ts : List T} {n : Nat} (h : IsD xs) (g : (ts.all (goodT n) && decide (0 < ts.length) && decide (ts.length < 1000000)) = true) :
    ∃ l ys, IsD ys ∧ okT n l ∧ m__law_pick [.lst xs, .lst ts] = some (.ok (sT l) [.lst ys, .lst ts]) := by
  simp only [Bool.and_eq_true, decide_eq_true_eq] at g
  obtain ⟨t, ys, hy, m, e⟩ := pick_l h g.1.2 g.2
  obtain ⟨l, rfl, hl⟩ := goodT_ok (List.all_eq_true.mp g.1.1 t m)
  refine ⟨l, ys, hy, hl, e fun x hx => ?_⟩
  obtain ⟨l', rfl, _⟩ := goodT_ok (List.all_eq_true.mp g.1.1 x hx)
  rfl
theorem wide_gap_e {xs : List T} (h : IsD xs) : ∃ l ys, IsD ys ∧ okT 3 l ∧ m__law_wide_gap [.lst xs] = some (.ok (sT l) [.lst ys]) := by
  obtain ⟨l, ys, hy, hl, e⟩ := pick_t (n := 3) (ts := [.str " ", .str "\n", .str "  ", .str " \n", .str "\n\n "]) h (by decide +kernel)
  exact ⟨l, ys, hy, hl, by simp [m__law_wide_gap, e]⟩
theorem gap_e {xs : List T} (h : IsD xs) : ∃ l ys, IsD ys ∧ okT 2 l ∧ m__law_gap [.lst xs] = some (.ok (sT l) [.lst ys]) := by
  obtain ⟨l, ys, hy, hl, e⟩ := pick_t (n := 2) (ts := [.str "", .str "", .str " ", .str "\n", .str "  "]) h (by decide +kernel)
  exact ⟨l, ys, hy, hl, by simp [m__law_gap, e]⟩
def poolOk : Option (Res T) → Bool
  | some (.ok (.lst ws) []) => ws.all (goodT 10) && decide (0 < ws.length) && decide (ws.length < 1000000)
  | _ => false
theorem pool_k : poolOk (m__law_pool []) = true := by decide +kernel
theorem pool_e : ∃ ws, m__law_pool [] = some (.ok (.lst ws) []) ∧ (ws.all (goodT 10) && decide (0 < ws.length) && decide (ws.length < 1000000)) = true := by
  have h := pool_k
  unfold poolOk at h
  split at h
  · rename_i ws e
    exact ⟨ws, e, h⟩
  · cases h
def allL : List Nat := (" !\"#$&'()*+,-./0123456789:;<=>?@ABCDEFGHIJKLMNOPQRSTUVWXYZ[\\]^_`" : Str).cps.toList ++ ("abcdefghijklmnopqrstuvwxyz{|}~\n" : Str).cps.toList
theorem allL_ok : (decide (0 < allL.length) && decide (allL.length < 200) && okC allL) = true := by decide +kernel
theorem all_signs_e : m__law_all_signs [] = some (.ok (sT allL) []) := by
  have := gAdd_sT (a := (" !\"#$&'()*+,-./0123456789:;<=>?@ABCDEFGHIJKLMNOPQRSTUVWXYZ[\\]^_`" : Str).cps.toList) (b := ("abcdefghijklmnopqrstuvwxyz{|}~\n" : Str).cps.toList) (by decide +kernel)
  simp [m__law_all_signs, str_eq, this, allL]
theorem okC_mem {l : List Nat} (h : okC l = true) {c : Nat} (m : c ∈ l) : okC [c] = true := by
  simp only [okC, List.all_eq_true] at h ⊢
  intro x hx
  rw [List.mem_singleton.mp hx]
  exact h c m
theorem okC_append {a b : List Nat} (ha : okC a = true) (hb : okC b = true) : okC (a ++ b) = true := by
  simp only [okC, List.all_append, Bool.and_eq_true] at *
  exact ⟨ha, hb⟩
theorem okT.append {a b : List Nat} {m n : Nat} (ha : okT m a) (hb : okT n b) : okT (m + n) (a ++ b) := ⟨by have := ha.1; have := hb.1; simp; omega, okC_append ha.2 hb.2⟩
theorem okT.mono {a : List Nat} {m n : Nat} (h : okT m a) (hl : m ≤ n) : okT n a := ⟨Nat.le_trans h.1 hl, h.2⟩
theorem okT.take {a : List Nat} {m : Nat} (h : okC a = true) : okT m (a.take m) := ⟨by simp; omega, by
  simp only [okC, List.all_eq_true] at h ⊢
  exact fun x hx => h x (List.mem_of_mem_take hx)⟩
end FL
namespace FL
open PySem PySem.Spec L2
theorem lit_e : (T.str "") = sT [] := congrArg T.str (by decide +kernel : ("" : Str) = ⟨#[]⟩)
theorem texts_of {n : Nat} : ∀ {ts : List T}, (∀ t, t ∈ ts → ∃ l, t = sT l ∧ okT n l) → ∃ ls : List (List Nat), ts = ls.map sT ∧ ∀ l ∈ ls, okT n l
  | [], _ => ⟨[], rfl, fun _ m => by cases m⟩
  | t :: ts, h => by
    obtain ⟨l, rfl, hl⟩ := h t List.mem_cons_self
    obtain ⟨ls, rfl, hs⟩ := texts_of fun u m => h u (List.mem_cons_of_mem _ m)
    refine ⟨l :: ls, rfl, fun x m => ?_⟩
    rcases List.mem_cons.mp m with rfl | m
    · exact hl
    · exact hs x m
theorem flat_ok {n : Nat} : ∀ {ls : List (List Nat)}, (∀ l ∈ ls, okT n l) → okT (ls.length * n) ls.flatten
  | [], _ => ⟨by simp, rfl⟩
  | l :: ls, h => by
    have := (h l List.mem_cons_self).append (flat_ok fun x m => h x (List.mem_cons_of_mem _ m))
    exact this.mono (by simp [Nat.succ_mul]; omega)
theorem join_ok {ls : List (List Nat)} {n m : Nat} (h : ∀ l ∈ ls, okT n l) (hm : ls.length ≤ m) (hb : m * n ≤ 16777216) : gJoin (sT []) [.lst (ls.map sT)] = some (sT ls.flatten) ∧ okT (m * n) ls.flatten := by
  have h1 : okT (m * n) ls.flatten := (flat_ok h).mono (Nat.mul_le_mul_right _ hm)
  exact ⟨gJoin_sT (Nat.le_trans h1.1 hb), h1⟩
theorem runL_ok : (decide (0 < runL.length) && decide (runL.length < 200) && okC runL) = true := by decide +kernel
/-- a comprehension of drawn texts -/
theorem comp_texts {n : Nat} {vs : List Nat} {g : T → M Unit} {el : M T} {m : Nat} {ρ : List T} {lo : Int} {mk : List T → List T} (hm : m ≤ 1000000) (hk : okW vs 0 ρ = true)
    {xs0 : List T} (hx : IsD xs0) (e0 : wipeT vs 0 ρ = mk xs0)
    (h : ∀ (i : Int) xs, IsD xs → ∃ ρ1 l ys ρ3, IsD ys ∧ okT n l ∧ g (.int i) (mk xs) = some (.ok () ρ1) ∧ el ρ1 = some (.ok (sT l) ρ3) ∧ wipeT vs 0 ρ3 = mk ys) :
    ∃ (ls : List (List Nat)) (ys : List T), IsD ys ∧ (∀ l ∈ ls, okT n l) ∧ ls.length = m ∧ compM vs g (M.pure true) el (rangeT lo m, chk1) ρ = some (.ok (.lst (ls.map sT)) (mixT vs 0 ρ (mk ys))) := by
  obtain ⟨ts, ρ', e, a, i⟩ := compM_inv (chk := chk1) (g := g) (c := M.pure true) (el := el) (vs := vs) (xs := rangeT lo m) (ρ := ρ) (fun _ t => ∃ l, t = sT l ∧ okT n l) (fun zs σ => (∀ x, x ∈ zs → ∃ i : Int, x = .int i) ∧ ∃ xs, IsD xs ∧ σ = mk xs)
    (fun _ _ _ => rfl)
    (fun x zs σ i => by
      obtain ⟨i1, xs, hx, rfl⟩ := i
      obtain ⟨j, rfl⟩ := i1 x List.mem_cons_self
      obtain ⟨ρ1, l, ys, ρ3, hy, hl, e1, e2, e3⟩ := h j xs hx
      exact ⟨(), ρ1, sT l, ρ3, e1, rfl, e2, rfl, ⟨l, rfl, hl⟩, fun y m => i1 y (List.mem_cons_of_mem _ m), ys, hy, e3⟩)
    hk (by rw [length_rangeT]; have : sizeLine = 16777216 := rfl; omega) ⟨fun x m => by obtain ⟨i, _, rfl⟩ := mem_rangeT m; exact ⟨_, rfl⟩, xs0, hx, e0⟩
  obtain ⟨ls, rfl, hl⟩ := texts_of (a.right (R := fun t => ∃ l, t = sT l ∧ okT n l) fun _ _ q => q)
  obtain ⟨_, ys, hy, rfl⟩ := i
  exact ⟨ls, ys, hy, hl, by simpa using a.length, e⟩
theorem big62_int {i : Int} (h0 : 0 ≤ i) (h : i ≤ 1000000000) : big62 i = true := by
  have := big62_nat (n := i.toNat) (by omega)
  rwa [Int.toNat_of_nonneg h0] at this
theorem gSl0_int {l : List Nat} {j : Int} (h : l.length ≤ sizeLine) (hj : 0 ≤ j) : gSl (sT l) none (some j) = some (sT (l.take j.toNat)) := by
  have := gSl0_sT (j := j.toNat) h
  rwa [Int.toNat_of_nonneg hj] at this
theorem big_75 : big62 75 = true := by decide
theorem line_le {n : Nat} (h : n ≤ 16777216) : n ≤ sizeLine := by have : sizeLine = 16777216 := rfl; omega
/-- a comprehension that only copies a text -/
theorem comp_copy {vs : List Nat} {g : T → M Unit} {el : M T} {m : Nat} {ρ : List T} {l : List Nat} {lo : Int} (hm : m ≤ 1000000) (hk : okW vs 0 ρ = true)
    (h : ∀ (i : Int), ∃ ρ1 ρ3, g (.int i) (wipeT vs 0 ρ) = some (.ok () ρ1) ∧ el ρ1 = some (.ok (sT l) ρ3) ∧ wipeT vs 0 ρ3 = wipeT vs 0 ρ) :
    compM vs g (M.pure true) el (rangeT lo m, chk1) ρ = some (.ok (.lst ((List.replicate m l).map sT)) ρ) := by
  have := compM_map (chk := chk1) (g := g) (c := M.pure true) (el := el) (vs := vs) (xs := rangeT lo m) (ρ := ρ) (fun _ => sT l) hk (by rw [length_rangeT]; exact line_le (by omega)) rfl fun x hx => by
    obtain ⟨i, _, rfl⟩ := mem_rangeT hx
    obtain ⟨ρ1, ρ3, e1, e2, e3⟩ := h (lo + i)
    exact ⟨(), ρ1, ρ3, e1, rfl, e2, rfl, e3⟩
  rw [this]
  congr 3
  rw [List.map_const', length_rangeT, List.map_replicate]
theorem run_text_e {xs : List T} (h : IsD xs) : ∃ l ys, IsD ys ∧ okT 900 l ∧ m__law_run_text [.lst xs] = some (.ok (sT l) [.lst ys]) := by
  obtain ⟨r1, y1, h1, r10, r11, e1⟩ := draw_e h (k := 30) (by decide) (by decide)
  obtain ⟨r2, y2, h2, r20, r21, e2⟩ := draw_e h1 (k := 16) (by decide) (by decide)
  have rl := runL_ok
  simp only [Bool.and_eq_true, decide_eq_true_eq] at rl
  have fin : ∀ (many : Int) (ys : List T), IsD ys → 0 ≤ many → many ≤ 900 → ∃ (ls rs : List (List Nat)) (w : List Nat) (zs : List T), IsD zs ∧
      compM [3] (gSet 3) (M.pure true) ce__law_run_text_2 (rangeT 0 (if 12 < many then 12 else many).toNat, chk1) [.lst ys, .int many, .unb, .unb] = some (.ok (.lst (ls.map sT)) [.lst zs, .int many, .unb, .unb]) ∧
      gJoin (sT []) [.lst (ls.map sT)] = some (sT ls.flatten) ∧
      compM [3] (gSet 3) (M.pure true) ce__law_run_text_1 (rangeT 0 75, chk1) [.lst zs, .int many, sT ls.flatten, .unb] = some (.ok (.lst (rs.map sT)) [.lst zs, .int many, sT ls.flatten, .unb]) ∧
      gJoin (sT []) [.lst (rs.map sT)] = some (sT rs.flatten) ∧
      gSl (sT rs.flatten) none (some many) = some (sT w) ∧
      okT 900 w ∧ big62 (if 12 < many then 12 else many) = true := fun many ys hy m0 m9 => by
    have hk : (if 12 < many then 12 else many).toNat ≤ 12 := by split <;> omega
    obtain ⟨ls, zs, hz, hl, hn, e⟩ := comp_texts (n := 1) (vs := [3]) (g := gSet 3) (el := ce__law_run_text_2) (m := (if 12 < many then 12 else many).toNat) (ρ := [.lst ys, .int many, .unb, .unb]) (lo := 0) (mk := fun xs => [.lst xs, .int many, .unb, .unb]) (by omega) (by simp [okW]) hy (by simp [wipeT]) fun i xs hx => by
      obtain ⟨c, zs, hz, hc, e⟩ := pick_s (l := runL) hx rl.1.1 (by omega)
      refine ⟨[.lst xs, .int many, .unb, .int i], [c], zs, [.lst zs, .int many, .unb, .int i], hz, ⟨by simp, okC_mem rl.2 hc⟩, by simp [gSet], ?_, by simp [wipeT]⟩
      simp [ce__law_run_text_2, run_signs_e, e]
    obtain ⟨j1, j2⟩ := join_ok hl (Nat.le_of_eq hn) (by omega)
    have j3 := j2.mono (n := 12) (by omega)
    obtain ⟨j4, j5⟩ := join_ok (ls := List.replicate 75 ls.flatten) (n := 12) (m := 75) (fun l m => by rw [List.eq_of_mem_replicate m]; exact j3) (by simp) (by omega)
    refine ⟨ls, List.replicate 75 ls.flatten, _, zs, hz, ?_, j1, ?_, j4, gSl0_int (line_le (by have := j5.1; omega)) m0, okT.mono (okT.take j5.2) (by omega), big62_int (by split <;> omega) (by split <;> omega)⟩
    · rw [e]; simp [mixT]
    · exact comp_copy (by omega) (by simp [okW]) fun i => ⟨[.lst zs, .int many, sT ls.flatten, .int i], [.lst zs, .int many, sT ls.flatten, .int i], by simp [gSet, wipeT], by simp [ce__law_run_text_1], by simp [wipeT]⟩
  have h75 := big_75
  by_cases h9 : r2 = 9
  · subst h9
    obtain ⟨r3, y3, h3, r30, r31, e3⟩ := draw_e h2 (k := 700) (by decide) (by decide)
    obtain ⟨ls, rs, w, zs, hz, f1, f2, f3, f4, f5, f6, f7⟩ := fin (200 + r3) y3 h3 (by omega) (by omega)
    refine ⟨w, zs, hz, f6, ?_⟩
    simp [m__law_run_text, e1, e2, e3, lit_e, f1, f2, f3, f4, f5, f7, h75]
  · obtain ⟨ls, rs, w, zs, hz, f1, f2, f3, f4, f5, f6, f7⟩ := fin (1 + r1) y2 h2 (by omega) (by omega)
    refine ⟨w, zs, hz, f6, ?_⟩
    simp [m__law_run_text, e1, e2, lit_e, f1, f2, f3, f4, f5, f7, h9, h75]
end FL
namespace FL
open PySem PySem.Spec L2
theorem str_ok : ((List.range 1000).all fun i => goodT 3 (.str (toString (Int.ofNat i)))) = true := by decide +kernel
theorem strI_e {r : Int} (h0 : 0 ≤ r) (h1 : r < 1000) : ∃ l, okT 3 l ∧ gStrI [.int r] = some (sT l) := by
  have h := List.all_eq_true.mp str_ok r.toNat (List.mem_range.mpr (by omega))
  rw [show Int.ofNat r.toNat = r from Int.toNat_of_nonneg h0] at h
  obtain ⟨l, e, hl⟩ := goodT_ok h
  refine ⟨l, hl, ?_⟩
  rw [← e]
  have : r.natAbs.log2 < 1920 := by
    have : r.natAbs < 2 ^ 1920 := by
      have : (1000 : Nat) ≤ 2 ^ 1920 := Nat.le_trans (by decide : 1000 ≤ 2 ^ 10) (Nat.pow_le_pow_right (by decide) (by decide))
      omega
    by_cases hz : r.natAbs = 0
    · rw [hz]; decide
    · exact (Nat.log2_lt hz).mpr this
  show (if r.natAbs.log2 < 1920 then _ else none) = _
  rw [if_pos this]
theorem piece_e {xs : List T} (h : IsD xs) : ∃ l ys, IsD ys ∧ okT 900 l ∧ m__law_piece [.lst xs] = some (.ok (sT l) [.lst ys]) := by
  obtain ⟨r, y1, h1, r0, r1, e1⟩ := draw_e h (k := 8) (by decide) (by decide)
  by_cases k0 : r = 0
  · subst k0
    obtain ⟨ws, hw, g⟩ := pool_e
    obtain ⟨l, ys, hy, hl, e⟩ := pick_t (n := 10) h1 g
    refine ⟨l, ys, hy, hl.mono (by omega), ?_⟩
    simp [m__law_piece, e1, hw, e]
  by_cases k1 : r = 1
  · subst k1
    obtain ⟨l, ys, hy, hl, e⟩ := pick_t (n := 3) (ts := [.str "->", .str "-", .str ">", .str "->>", .str "--", .str ">-"]) h1 (by decide +kernel)
    refine ⟨l, ys, hy, hl.mono (by omega), ?_⟩
    simp [m__law_piece, e1, e]
  by_cases k2 : r = 2
  · subst k2
    obtain ⟨l, ys, hy, hl, e⟩ := pick_t (n := 3) (ts := [.str "(", .str ")", .str "()", .str ";", .str ":", .str "+", .str "*", .str ".", .str ",", .str "_"]) h1 (by decide +kernel)
    refine ⟨l, ys, hy, hl.mono (by omega), ?_⟩
    simp [m__law_piece, e1, e]
  by_cases k3 : r = 3
  · subst k3
    have al := allL_ok
    simp only [Bool.and_eq_true, decide_eq_true_eq] at al
    obtain ⟨c, ys, hy, hc, e⟩ := pick_s (l := allL) h1 al.1.1 (by omega)
    refine ⟨[c], ys, hy, ⟨by simp, okC_mem al.2 hc⟩, ?_⟩
    simp [m__law_piece, e1, all_signs_e, e]
  by_cases k4 : r = 4
  · subst k4
    obtain ⟨r2, y2, h2, r20, r21, e2⟩ := draw_e h1 (k := 1000) (by decide) (by decide)
    obtain ⟨l, hl, e⟩ := strI_e r20 r21
    refine ⟨l, y2, h2, hl.mono (by omega), ?_⟩
    simp [m__law_piece, e1, e2, e]
  obtain ⟨l, ys, hy, hl, e⟩ := run_text_e h1
  refine ⟨l, ys, hy, hl, ?_⟩
  simp [m__law_piece, e1, k0, k1, k2, k3, k4, e]
theorem some_loop {w : Int} {x y z : T} : ∀ (m : Nat) (lo : Int) (xs : List T) (l : List Nat) (i : T) (n : Nat), IsD xs → okT n l → n + m * 902 ≤ 16777216 → (pureT i || isU i) = true →
    ∃ ys l' i', IsD ys ∧ okT (n + m * 902) l' ∧ (pureT i' || isU i') = true ∧ forL chk1 (gSet 5) fb__law_some_text_1 (rangeT lo m) [.lst xs, .int w, x, y, sT l, i, z] = some (.ok .nx [.lst ys, .int w, x, y, sT l', i', z])
  | 0, lo, xs, l, i, n, h, hl, hb, hi => ⟨xs, l, i, h, by simpa using hl, hi, by rw [rangeT_zero, forL_nil rfl]⟩
  | m + 1, lo, xs, l, i, n, h, hl, hb, hi => by
    obtain ⟨p, y1, h1, hp, e1⟩ := piece_e h
    obtain ⟨q, y2, h2, hq, e2⟩ := gap_e h1
    have hpq := (hl.append hp).append hq
    have a1 := gAdd_sT (a := l) (b := p) (line_le (by have := hl.1; have := hp.1; omega))
    have a2 := gAdd_sT (a := l ++ p) (b := q) (line_le (by have := hl.1; have := hp.1; have := hq.1; simp; omega))
    obtain ⟨ys, l', i', hy, hl', hi', e⟩ := some_loop m (lo + 1) y2 (l ++ p ++ q) (.int lo) (n + 900 + 2) h2 hpq (by omega) rfl
    refine ⟨ys, l', i', hy, hl'.mono (by omega), hi', ?_⟩
    rw [rangeT_succ, forL_nx (u := ()) (ρ1 := [.lst xs, .int w, x, y, sT l, .int lo, z]) (ρ2 := [.lst y2, .int w, x, y, sT (l ++ p ++ q), .int lo, z]) rfl (by simp [gSet]) _, e]
    simp only [List.append_assoc] at a2
    simp [fb__law_some_text_1, e1, e2, a1, a2]
end FL
namespace FL
open PySem PySem.Spec L2
theorem some_text_e {xs : List T} (h : IsD xs) : ∃ l ys, IsD ys ∧ okT 950 l ∧ m__law_some_text [.lst xs] = some (.ok (sT l) [.lst ys]) := by
  obtain ⟨w, y1, h1, w0, w1, e1⟩ := draw_e h (k := 8) (by decide) (by decide)
  by_cases k2 : w < 2
  · obtain ⟨r, y2, h2, r0, r1, e2⟩ := draw_e h1 (k := 41) (by decide) (by decide)
    have al := allL_ok
    simp only [Bool.and_eq_true, decide_eq_true_eq] at al
    obtain ⟨ls, zs, hz, hl, hn, e⟩ := comp_texts (n := 1) (vs := [5]) (g := gSet 5) (el := ce__law_some_text_3) (m := r.toNat) (ρ := [.lst y2, .int w, sT allL, .unb, .unb, .unb, .unb]) (lo := 0) (mk := fun xs => [.lst xs, .int w, sT allL, .unb, .unb, .unb, .unb]) (by omega) (by simp [okW]) h2 (by simp [wipeT]) fun i xs hx => by
      obtain ⟨c, zs, hz, hc, e⟩ := pick_s (l := allL) hx al.1.1 (by omega)
      refine ⟨[.lst xs, .int w, sT allL, .unb, .unb, .int i, .unb], [c], zs, [.lst zs, .int w, sT allL, .unb, .unb, .int i, .unb], hz, ⟨by simp, okC_mem al.2 hc⟩, by simp [gSet], ?_, by simp [wipeT]⟩
      simp [ce__law_some_text_3, e]
    obtain ⟨j1, j2⟩ := join_ok hl (Nat.le_of_eq hn) (by omega)
    refine ⟨_, zs, hz, j2.mono (by omega), ?_⟩
    have hb := big62_int r0 (by omega)
    simp [mixT] at e
    simp [m__law_some_text, e1, k2, all_signs_e, e2, hb, e, lit_e, j1]
  by_cases k4 : w < 4
  · obtain ⟨r, y2, h2, r0, r1, e2⟩ := draw_e h1 (k := 41) (by decide) (by decide)
    obtain ⟨ls, zs, hz, hl, hn, e⟩ := comp_texts (n := 2) (vs := [5]) (g := gSet 5) (el := ce__law_some_text_2) (m := r.toNat) (ρ := [.lst y2, .int w, .unb, .lst [T.str "a", .str "Z", .str "0", .str "b9", .str "-", .str ">", .str "->", .str "-", .str ">", .str " ", .str "\n", .str "(", .str ")", .str ";", .str ":", .str "+", .str "_", .str "~"], .unb, .unb, .unb]) (lo := 0) (mk := fun xs => [.lst xs, .int w, .unb, .lst [T.str "a", .str "Z", .str "0", .str "b9", .str "-", .str ">", .str "->", .str "-", .str ">", .str " ", .str "\n", .str "(", .str ")", .str ";", .str ":", .str "+", .str "_", .str "~"], .unb, .unb, .unb]) (by omega) (by simp [okW]) h2 (by simp [wipeT]) fun i xs hx => by
      obtain ⟨c, zs, hz, hc, e⟩ := pick_t (n := 2) (ts := [T.str "a", .str "Z", .str "0", .str "b9", .str "-", .str ">", .str "->", .str "-", .str ">", .str " ", .str "\n", .str "(", .str ")", .str ";", .str ":", .str "+", .str "_", .str "~"]) hx (by decide +kernel)
      refine ⟨[.lst xs, .int w, .unb, .lst [T.str "a", .str "Z", .str "0", .str "b9", .str "-", .str ">", .str "->", .str "-", .str ">", .str " ", .str "\n", .str "(", .str ")", .str ";", .str ":", .str "+", .str "_", .str "~"], .unb, .int i, .unb], c, zs, [.lst zs, .int w, .unb, .lst [T.str "a", .str "Z", .str "0", .str "b9", .str "-", .str ">", .str "->", .str "-", .str ">", .str " ", .str "\n", .str "(", .str ")", .str ";", .str ":", .str "+", .str "_", .str "~"], .unb, .int i, .unb], hz, hc, by simp [gSet], ?_, by simp [wipeT]⟩
      simp [ce__law_some_text_2, e]
    obtain ⟨j1, j2⟩ := join_ok hl (Nat.le_of_eq hn) (by omega)
    refine ⟨_, zs, hz, j2.mono (by omega), ?_⟩
    have hb := big62_int r0 (by omega)
    simp [mixT] at e
    simp [m__law_some_text, e1, k2, k4, e2, hb, e, lit_e, j1]
  obtain ⟨l0, y2, h2, hl0, e2⟩ := gap_e h1
  obtain ⟨r, y3, h3, r0, r1, e3⟩ := draw_e h2 (k := 16) (by decide) (by decide)
  have hb := big62_int r0 (by omega)
  obtain ⟨y4, l1, i1, h4, hl1, hi1, e4⟩ := some_loop (w := w) (x := .unb) (y := .unb) (z := .unb) r.toNat 0 y3 l0 .unb 2 h3 hl0 (by omega) rfl
  have hl1 := hl1.mono (n := 13600) (by omega)
  by_cases k5 : w = 5
  · subst k5
    obtain ⟨r5, y5, h5, r50, r51, e5⟩ := draw_e h4 (k := 60) (by decide) (by decide)
    have hb5 := big62_int (i := 1 + r5) (by omega) (by omega)
    have hc := comp_copy (vs := [5]) (g := gSet 5) (el := ce__law_some_text_1) (m := (1 + r5).toNat) (ρ := [.lst y5, .int 5, .unb, .unb, sT l1, i1, sT l1]) (l := l1) (lo := 0) (by omega) (by simp [okW]; simpa using hi1) fun i =>
      ⟨[.lst y5, .int 5, .unb, .unb, sT l1, .int i, sT l1], [.lst y5, .int 5, .unb, .unb, sT l1, .int i, sT l1], by simp [gSet, wipeT], by simp [ce__law_some_text_1], by simp [wipeT]⟩
    obtain ⟨j1, j2⟩ := join_ok (ls := List.replicate (1 + r5).toNat l1) (n := 13600) (m := 60) (fun l m => by rw [List.eq_of_mem_replicate m]; exact hl1) (by simp; omega) (by omega)
    generalize List.replicate (1 + r5).toNat l1 = rs at *
    have hs := gSl0_int (l := rs.flatten) (j := 950) (line_le (by have := j2.1; omega)) (by decide)
    refine ⟨_, y5, h5, okT.take (m := 950) j2.2, ?_⟩
    simp at e4 hs
    simp [m__law_some_text, e1, e2, e3, hb, e4, hs, e5, hb5, hc, lit_e, j1]
  · have hs := gSl0_int (l := l1) (j := 950) (line_le (by have := hl1.1; omega)) (by decide)
    refine ⟨_, y4, h4, okT.take (m := 950) hl1.2, ?_⟩
    simp at e4 hs
    simp [m__law_some_text, e1, k2, k4, k5, e2, e3, hb, e4, hs]

theorem begin_fro (ns : List Int) (hn : ns.length ≤ 63) : ∃ xs, IsD xs ∧ m__law_begin [.fro (ns.map .int)] = some (.ok (.lst xs) [.fro (ns.map .int)]) := by
  have hc := compM_map (chk := chk1) (g := gSet 1) (c := M.pure true) (el := ce__law_begin_1) (vs := [1]) (xs := ns.map .int) (ρ := [.fro (ns.map .int), .unb]) (fun x => x) (by simp [okW]) (by rw [List.length_map]; exact line_le (by omega)) rfl fun x hx => by
    obtain ⟨i, _, rfl⟩ := List.mem_map.mp hx
    exact ⟨(), [.fro (ns.map .int), .int i], [.fro (ns.map .int), .int i], by simp [gSet, wipeT], rfl, by simp [ce__law_begin_1], rfl, by simp [wipeT]⟩
  rw [List.map_id'] at hc
  refine ⟨_, ⟨ns, 0, 0, 7, 3, by decide, rfl⟩, ?_⟩
  simp [m__law_begin, hc]
theorem begin_scr (ns : List Int) (hn : ns.length ≤ 63) : ∃ xs, IsD xs ∧ m__law_begin [.scr (ns.map .int)] = some (.ok (.lst xs) [.scr (ns.map .int)]) := by
  have hc := compM_map (chk := chk1) (g := gSet 1) (c := M.pure true) (el := ce__law_begin_1) (vs := [1]) (xs := ns.map .int) (ρ := [.scr (ns.map .int), .unb]) (fun x => x) (by simp [okW]) (by rw [List.length_map]; exact line_le (by omega)) rfl fun x hx => by
    obtain ⟨i, _, rfl⟩ := List.mem_map.mp hx
    exact ⟨(), [.scr (ns.map .int), .int i], [.scr (ns.map .int), .int i], by simp [gSet, wipeT], rfl, by simp [ce__law_begin_1], rfl, by simp [wipeT]⟩
  rw [List.map_id'] at hc
  refine ⟨_, ⟨ns, 0, 0, 7, 3, by decide, rfl⟩, ?_⟩
  simp [m__law_begin, hc]
theorem spread_loop {ts : List (List Nat)} : ∀ (ls : List (List Nat)) (xs : List T) (l : List Nat) (x : T) (n : Nat), IsD xs → okT n l → okC ls.flatten = true → n + ls.flatten.length + ls.length * 3 ≤ 1048576 →
    ∃ ys l' x', IsD ys ∧ okT (n + ls.flatten.length + ls.length * 3) l' ∧ forL (chkL 1 (ts.map sT)) (gSet 3) fb__law_spread_1 (ls.map sT) [.lst xs, .lst (ts.map sT), sT l, x] = some (.ok .nx [.lst ys, .lst (ts.map sT), sT l', x'])
  | [], xs, l, x, n, h, hl, hc, hb => ⟨xs, l, x, h, by simpa using hl, by rw [List.map_nil, forL_nil]; simp⟩
  | w :: ls, xs, l, x, n, h, hl, hc, hb => by
    rw [List.flatten_cons, List.length_append, List.length_cons] at *
    obtain ⟨q, y2, h2, hq, e2⟩ := wide_gap_e h
    simp only [okC, List.all_append, Bool.and_eq_true] at hc
    have hw : okT w.length w := ⟨Nat.le_refl _, hc.1⟩
    have hpq := (hl.append hw).append hq
    have a1 := gAdd_sT (a := l) (b := w) (line_le (by have := hl.1; omega))
    have a2 := gAdd_sT (a := l ++ w) (b := q) (line_le (by have := hl.1; have := hq.1; simp; omega))
    obtain ⟨ys, l', x', hy, hl', e⟩ := spread_loop ls y2 (l ++ w ++ q) (sT w) (n + w.length + 3) h2 hpq hc.2 (by omega)
    refine ⟨ys, l', x', hy, hl'.mono (by omega), ?_⟩
    rw [List.map_cons, forL_nx (u := ()) (ρ1 := [.lst xs, .lst (ts.map sT), sT l, sT w]) (ρ2 := [.lst y2, .lst (ts.map sT), sT (l ++ w ++ q), sT w]) (by simp) (by simp [gSet]) _, e]
    simp only [List.append_assoc] at a2
    simp [fb__law_spread_1, e2, a1, a2]
theorem spread_e {xs : List T} {ts : List (List Nat)} (h : IsD xs) (hc : okC ts.flatten = true) (hb : ts.flatten.length + ts.length * 3 ≤ 1048000) :
    ∃ l ys, IsD ys ∧ okT 1048576 l ∧ m__law_spread [.lst xs, .lst (ts.map sT)] = some (.ok (sT l) [.lst ys, .lst (ts.map sT)]) := by
  obtain ⟨l0, y1, h1, hl0, e1⟩ := gap_e h
  obtain ⟨ys, l', x', hy, hl', e⟩ := spread_loop (ts := ts) ts y1 l0 .unb 2 h1 hl0 hc (by omega)
  refine ⟨l', ys, hy, hl'.mono (by omega), ?_⟩
  simp [m__law_spread, e1, e]
end FL
namespace FL
open PySem PySem.Spec L2
theorem own_flat {st : Nat → Nat → Bool} : ∀ (l : List Nat) p acc, (own st p acc l).flatten.length ≤ acc.flatten.length + l.length
  | [], p, acc => by cases p <;> simp [own]
  | c :: l, p, acc => by
    unfold own
    split
    · have := own_flat (st := st) l (some c) acc
      simp only [List.length_cons]; omega
    · split
      · have := own_flat (st := st) l (some c) (acc.dropLast ++ [acc.getLastD [] ++ [c]])
        have e : (acc.dropLast ++ [acc.getLastD [] ++ [c]]).flatten.length ≤ acc.flatten.length + 1 := by
          by_cases hne : acc = []
          · subst hne; simp
          · have h2 : acc.flatten.length = acc.dropLast.flatten.length + (acc.getLast hne).length := by
              conv => lhs; rw [← List.dropLast_concat_getLast hne]
              simp
            rw [List.getLastD_eq_getLast?, List.getLast?_eq_some_getLast hne, h2]
            simp
            omega
        simp only [List.length_cons]; omega
      · have := own_flat (st := st) l (some c) (acc ++ [[c]])
        simp only [List.flatten_append, List.length_append, List.flatten_cons, List.flatten_nil, List.length_cons, List.length_nil] at this ⊢; omega
theorem okC_flat {ls : List (List Nat)} (h : ls.all okC = true) : okC ls.flatten = true := by
  simp only [okC, List.all_flatten]
  simp only [List.all_eq_true] at h ⊢
  intro l m
  have := h l m
  simpa [okC] using this
theorem law_body {S : T} {t o : List Nat} {ls : List (List Nat)} {xs : List T} {k : Bool} {x z : T} (h : IsD xs) (ht : okT 950 t) (hl : ∀ l ∈ ls, okT 1048576 l) (hn : ls.length ≤ 100) :
    ∃ (ls' : List (List Nat)) (ys toks : List T), IsD ys ∧ (∀ l ∈ ls', okT 1048576 l) ∧ ls'.length ≤ ls.length + 2 ∧
      fb_law_1 [S, .lst xs, sT t, sT o, .lst (ls.map sT), .bl k, x, z] = some (.ok .nx [S, .lst ys, sT t, sT o, .lst (ls'.map sT), .bl k, .lst toks, z]) := by
  have ht1 := ht.1
  have hot := own_tokens_e (l := t) (k := k) (by omega)
  have hall := own_ok (st := stk k) ht.2
  have hfl := own_flat (st := stk k) t none []
  have hln := own_len (st := stk k) t none []
  generalize own (stk k) none [] t = toks at *
  simp only [List.flatten_nil, List.length_nil] at hfl hln
  obtain ⟨sp, y1, h1, hsp, e1⟩ := spread_e h (okC_flat hall) (by omega)
  have a1 : ls.length < sizeLine := Nat.lt_of_lt_of_le (by omega : ls.length < 16777216) (line_le (by omega))
  have a2 : ls.length + 1 < sizeLine := Nat.lt_of_lt_of_le (by omega : ls.length + 1 < 16777216) (line_le (by omega))
  by_cases hz : toks = []
  · subst hz
    refine ⟨ls ++ [sp], y1, [], h1, ?_, by simp, ?_⟩
    · intro l m
      rcases List.mem_append.mp m with m | m
      · exact hl l m
      · simp at m; subst m; exact hsp
    · simp at e1 hot
      simp [fb_law_1, hot, e1, a1]
  · have h0 : 0 < toks.length := List.length_pos_iff.mpr hz
    obtain ⟨p, y2, h2, mp, e2⟩ := pick_l (ts := toks.map sT) h1 (by simpa using h0) (by rw [List.length_map]; omega)
    have e2 := e2 fun x m => by obtain ⟨l, _, rfl⟩ := List.mem_map.mp m; rfl
    obtain ⟨w, mw, rfl⟩ := List.mem_map.mp mp
    have hw : okT 1048576 w := by
      refine ⟨?_, List.all_eq_true.mp hall w mw⟩
      have : w.length ≤ toks.flatten.length := by
        exact (List.sublist_flatten_of_mem mw).length_le
      omega
    refine ⟨ls ++ [sp] ++ [w], y2, toks.map sT, h2, ?_, by simp, ?_⟩
    · intro l m
      rcases List.mem_append.mp m with m | m
      · rcases List.mem_append.mp m with m | m
        · exact hl l m
        · simp at m; subst m; exact hsp
      · simp at m; subst m; exact hw
    · simp [fb_law_1, hot, e1, a1, a2, h0, e2]
theorem law_facts {S : T} {xs : List T} (h : IsD xs) : ∃ (t o g : List Nat) (ls : List (List Nat)) (y1 y2 y3 y4 : List T) (b : Bool) (x6 : T),
    m__law_some_text [.lst xs] = some (.ok (sT t) [.lst y1]) ∧ m__law_some_text [.lst y1] = some (.ok (sT o) [.lst y2]) ∧ m__law_wide_gap [.lst y2] = some (.ok (sT g) [.lst y3]) ∧
    gAdd (sT t) (sT g) = some (sT (t ++ g)) ∧ gAdd (sT (t ++ g)) (sT o) = some (sT (t ++ g ++ o)) ∧ gAdd (sT t) (sT o) = some (sT (t ++ o)) ∧ ls.length < sizeLine ∧
    forL chk1 (gSet 5) fb_law_1 [.bl false, .bl true] [S, .lst y3, sT t, sT o, .lst [sT t, sT o, sT (t ++ g ++ o), sT (t ++ o), sT []], .unb, .unb, .unb] = some (.ok .nx [S, .lst y4, sT t, sT o, .lst (ls.map sT), .bl b, x6, .unb]) ∧
    compM [7] (gSet 7) (M.pure true) ce_law_1 ((ls ++ [t]).map sT, chkL 4 ((ls ++ [t]).map sT)) [S, .lst y4, sT t, sT o, .lst ((ls ++ [t]).map sT), .bl b, x6, .unb] = some (.ok (.lst ((ls ++ [t]).map fun _ => .bl true)) [S, .lst y4, sT t, sT o, .lst ((ls ++ [t]).map sT), .bl b, x6, .unb]) := by
  obtain ⟨t, y1, h1, ht, e1⟩ := some_text_e h
  obtain ⟨o, y2, h2, ho, e2⟩ := some_text_e h1
  obtain ⟨g, y3, h3, hg, e3⟩ := wide_gap_e h2
  have ht1 := ht.1
  have ho1 := ho.1
  have hg1 := hg.1
  have hl0 : ∀ l ∈ [t, o, t ++ g ++ o, t ++ o, []], okT 1048576 l := fun l m => by
    simp only [List.mem_cons, List.mem_nil_iff, or_false] at m
    rcases m with rfl | rfl | rfl | rfl | rfl
    · exact ht.mono (by omega)
    · exact ho.mono (by omega)
    · exact ((ht.append hg).append ho).mono (by omega)
    · exact (ht.append ho).mono (by omega)
    · exact ⟨by simp, rfl⟩
  obtain ⟨l1, z1, t1, i1, k1, n1, f1⟩ := law_body (S := S) (o := o) (k := false) (x := .unb) (z := .unb) h3 ht hl0 (by simp)
  obtain ⟨l2, z2, t2, i2, k2, n2, f2⟩ := law_body (S := S) (o := o) (k := true) (x := .lst t1) (z := .unb) i1 ht k1 (by simp at n1; omega)
  simp only [List.length_cons, List.length_nil] at n1
  have hlen : l2.length < sizeLine := Nat.lt_of_lt_of_le (by omega : l2.length < 16777216) (line_le (by omega))
  refine ⟨t, o, g, l2, y1, y2, y3, z2, true, .lst t2, e1, e2, e3, gAdd_sT (line_le (by omega)), gAdd_sT (line_le (by simp; omega)), gAdd_sT (line_le (by omega)), hlen, ?_, ?_⟩
  · rw [forL_nx (u := ()) (ρ1 := [S, .lst y3, sT t, sT o, .lst [sT t, sT o, sT (t ++ g ++ o), sT (t ++ o), sT []], .bl false, .unb, .unb]) rfl (by simp [gSet]) f1,
      forL_nx (u := ()) (ρ1 := [S, .lst z1, sT t, sT o, .lst (l1.map sT), .bl true, .lst t1, .unb]) rfl (by simp [gSet]) f2, forL_nil rfl]
  · have hk : ∀ l ∈ l2 ++ [t], okT 1048576 l := fun l m => by
      rcases List.mem_append.mp m with m | m
      · exact k2 l m
      · simp at m; subst m; exact ht.mono (by omega)
    have hc := compM_map (chk := chkL 4 ((l2 ++ [t]).map sT)) (g := gSet 7) (c := M.pure true) (el := ce_law_1) (vs := [7]) (xs := (l2 ++ [t]).map sT) (ρ := [S, .lst z2, sT t, sT o, .lst ((l2 ++ [t]).map sT), .bl true, .lst t2, .unb]) (fun _ => .bl true) (by simp [okW]) (by rw [List.length_map]; exact line_le (by simp; omega)) (by simp [wipeT]) fun x hx => by
      obtain ⟨l, m, rfl⟩ := List.mem_map.mp hx
      have hl := hk l m
      have := split_right_e hl.1 hl.2
      exact ⟨(), [S, .lst z2, sT t, sT o, .lst ((l2 ++ [t]).map sT), .bl true, .lst t2, sT l], [S, .lst z2, sT t, sT o, .lst ((l2 ++ [t]).map sT), .bl true, .lst t2, sT l], by simp [gSet, wipeT], rfl, by simp [ce_law_1, this], rfl, by simp [wipeT]⟩
    rw [List.map_map] at hc
    exact hc
theorem law_true (ns : List Int) (h : ns.length ≤ 63) : (∃ ts', m_law [.fro (ns.map .int)] = some (.ok (.bl true) ts')) ∧ ∃ ts', m_law [.scr (ns.map .int)] = some (.ok (.bl true) ts') := by
  constructor
  · obtain ⟨xs, hx, e0⟩ := begin_fro ns h
    obtain ⟨t, o, g, ls, y1, y2, y3, y4, b, x6, e1, e2, e3, e4, e5, e6, e7, e8, e9⟩ := law_facts (S := .fro (ns.map .int)) hx
    have ha := gAll_true (ls ++ [t])
    simp only [List.map_append, List.map_cons, List.map_nil] at e9 ha
    simp only [List.append_assoc] at e5 e8
    simp [m_law, e0, e1, e2, e3, e4, e5, e6, e7, e8, e9, lit_e, ha]
  · obtain ⟨xs, hx, e0⟩ := begin_scr ns h
    obtain ⟨t, o, g, ls, y1, y2, y3, y4, b, x6, e1, e2, e3, e4, e5, e6, e7, e8, e9⟩ := law_facts (S := .scr (ns.map .int)) hx
    have ha := gAll_true (ls ++ [t])
    simp only [List.map_append, List.map_cons, List.map_nil] at e9 ha
    simp only [List.append_assoc] at e5 e8
    simp [m_law, e0, e1, e2, e3, e4, e5, e6, e7, e8, e9, lit_e, ha]
end FL
namespace FL
open PySem PySem.Spec L2
theorem law_fin {P : Program} {w : World} {K : PySem.W.Frag} {mg : Str → Option Value} {fa : Addr} (T : Top K mg) (hfa : mg "law" = some (.ref fa)) : ∃ fd : FuncData, (∀ (s : Shared) (v : Value), BindsTo s fd ⟨[v], []⟩ [("script", v)]) ∧ ∀ base : Heap, K.In base → base.Ns mainGlobals mg → FnOk P w K mg base (L2.CX P w) 6 fa fd ["script"] (spLaw K) :=
  law_mk (st := s_law) (ps := ["script"]) hfa "script" rfl T.f_law (fun _ _ _ _ _ _ s v => .of_eq rfl) fun f fd hm F base => law_fn (ok_law_fn T f fd hm F) law_true
end FL
open PySem PySem.W PyProof.Rows
set_option maxHeartbeats 0 in
theorem PySem.Challenge.cw_mustersums_k01_tokens_split_holds : PySem.Challenge.rw_mustersums_k01_tokens_split.Holds := by
  w_on; o_law; k_head; (case hw => w_witness2)
  k_fill
  refine L2.walk_of (l := PySem.Challenge.rw_mustersums_k01_tokens_split) (n := 63) (k := 6) (x := "script") (CX := fun w => L2.CX PySem.Challenge.rw_mustersums_k01_tokens_split.prog w) (sp := fun w => FL.spLaw _) rfl (by decide) rfl ⟨rfl, by decide, by decide⟩ (fun w h Y => PySem.W.kIn_of Y) ?F (fun _ _ a ns hl hO hS => ⟨a, ns, rfl, hl, hO, hS, fun _ => rfl⟩) (fun _ _ _ _ _ h => FL.cx_false (P := PySem.Challenge.rw_mustersums_k01_tokens_split.prog) h)
  case F =>
    intro w mg fa h KX G hmg
    refine FL.law_fin ?T hmg
    case T =>
      refine' ⟨FL.fact_mk KX G ?b0 ?a0 ?l0 ?c0 ?k0, FL.fact_mk KX G ?b1 ?a1 ?l1 ?c1 ?k1, FL.fact_mk KX G ?b2 ?a2 ?l2 ?c2 ?k2, FL.fact_mk KX G ?b3 ?a3 ?l3 ?c3 ?k3, FL.fact_mk KX G ?b4 ?a4 ?l4 ?c4 ?k4, FL.fact_mk KX G ?b5 ?a5 ?l5 ?c5 ?k5, FL.fact_mk KX G ?b6 ?a6 ?l6 ?c6 ?k6, FL.fact_mk KX G ?b7 ?a7 ?l7 ?c7 ?k7, FL.fact_mk KX G ?b8 ?a8 ?l8 ?c8 ?k8, FL.fact_mk KX G ?b9 ?a9 ?l9 ?c9 ?k9, FL.fact_mk KX G ?b10 ?a10 ?l10 ?c10 ?k10, FL.fact_mk KX G ?b11 ?a11 ?l11 ?c11 ?k11, FL.fact_mk KX G ?b12 ?a12 ?l12 ?c12 ?k12, FL.fact_mk KX G ?b13 ?a13 ?l13 ?c13 ?k13, FL.fact_mk KX G ?b14 ?a14 ?l14 ?c14 ?k14, FL.fact_mk KX G ?b15 ?a15 ?l15 ?c15 ?k15, FL.fact_mk KX G ?b16 ?a16 ?l16 ?c16 ?k16, FL.fact_mk KX G ?b17 ?a17 ?l17 ?c17 ?k17, FL.fact_mk KX G ?b18 ?a18 ?l18 ?c18 ?k18, FL.fact_mk KX G ?b19 ?a19 ?l19 ?c19 ?k19, FL.fact_mk KX G ?b20 ?a20 ?l20 ?c20 ?k20, ⟨?u0, FL.val_mk KX G ?v0, ?r0⟩, ⟨?u1, FL.val_mk KX G ?v1, ?r1⟩, ⟨?u2, FL.val_mk KX G ?v2, ?r2⟩, FL.none_mk KX G ?v3, FL.none_mk KX G ?v4, FL.none_mk KX G ?v5, FL.none_mk KX G ?v6, FL.none_mk KX G ?v7, FL.none_mk KX G ?v8, FL.none_mk KX G ?v9, FL.none_mk KX G ?v10, FL.none_mk KX G ?v11, FL.none_mk KX G ?v12⟩
      (case b0 => exact fun _ _ _ _ _ _ us hl => match us, hl with | [_], _ => rfl)
      (case a0 => k_is)
      (case l0 => k_is)
      (case c0 => k_is)
      (case k0 => k_is)
      (case b1 => exact fun _ _ _ _ _ _ us hl => match us, hl with | [_, _], _ => rfl)
      (case a1 => k_is)
      (case l1 => k_is)
      (case c1 => k_is)
      (case k1 => k_is)
      (case b2 => exact fun _ _ _ _ _ _ us hl => match us, hl with | [_], _ => rfl)
      (case a2 => k_is)
      (case l2 => k_is)
      (case c2 => k_is)
      (case k2 => k_is)
      (case b3 => exact fun _ _ _ _ _ _ us hl => match us, hl with | [_], _ => rfl)
      (case a3 => k_is)
      (case l3 => k_is)
      (case c3 => k_is)
      (case k3 => k_is)
      (case b4 => exact fun _ _ _ _ _ _ us hl => match us, hl with | [_], _ => rfl)
      (case a4 => k_is)
      (case l4 => k_is)
      (case c4 => k_is)
      (case k4 => k_is)
      (case b5 => exact fun _ _ _ _ _ _ us hl => match us, hl with | [_], _ => rfl)
      (case a5 => k_is)
      (case l5 => k_is)
      (case c5 => k_is)
      (case k5 => k_is)
      (case b6 => exact fun _ _ _ _ _ _ us hl => match us, hl with | [_, _], _ => rfl)
      (case a6 => k_is)
      (case l6 => k_is)
      (case c6 => k_is)
      (case k6 => k_is)
      (case b7 => exact fun _ _ _ _ _ _ us hl => match us, hl with | [_, _], _ => rfl)
      (case a7 => k_is)
      (case l7 => k_is)
      (case c7 => k_is)
      (case k7 => k_is)
      (case b8 => exact fun _ _ _ _ _ _ us hl => match us, hl with | [], _ => rfl)
      (case a8 => k_is)
      (case l8 => k_is)
      (case c8 => k_is)
      (case k8 => k_is)
      (case b9 => exact fun _ _ _ _ _ _ us hl => match us, hl with | [], _ => rfl)
      (case a9 => k_is)
      (case l9 => k_is)
      (case c9 => k_is)
      (case k9 => k_is)
      (case b10 => exact fun _ _ _ _ _ _ us hl => match us, hl with | [], _ => rfl)
      (case a10 => k_is)
      (case l10 => k_is)
      (case c10 => k_is)
      (case k10 => k_is)
      (case b11 => exact fun _ _ _ _ _ _ us hl => match us, hl with | [_, _, _], _ => rfl)
      (case a11 => k_is)
      (case l11 => k_is)
      (case c11 => k_is)
      (case k11 => k_is)
      (case b12 => exact fun _ _ _ _ _ _ us hl => match us, hl with | [_, _], _ => rfl)
      (case a12 => k_is)
      (case l12 => k_is)
      (case c12 => k_is)
      (case k12 => k_is)
      (case b13 => exact fun _ _ _ _ _ _ us hl => match us, hl with | [_], _ => rfl)
      (case a13 => k_is)
      (case l13 => k_is)
      (case c13 => k_is)
      (case k13 => k_is)
      (case b14 => exact fun _ _ _ _ _ _ us hl => match us, hl with | [_], _ => rfl)
      (case a14 => k_is)
      (case l14 => k_is)
      (case c14 => k_is)
      (case k14 => k_is)
      (case b15 => exact fun _ _ _ _ _ _ us hl => match us, hl with | [_], _ => rfl)
      (case a15 => k_is)
      (case l15 => k_is)
      (case c15 => k_is)
      (case k15 => k_is)
      (case b16 => exact fun _ _ _ _ _ _ us hl => match us, hl with | [_], _ => rfl)
      (case a16 => k_is)
      (case l16 => k_is)
      (case c16 => k_is)
      (case k16 => k_is)
      (case b17 => exact fun _ _ _ _ _ _ us hl => match us, hl with | [_], _ => rfl)
      (case a17 => k_is)
      (case l17 => k_is)
      (case c17 => k_is)
      (case k17 => k_is)
      (case b18 => exact fun _ _ _ _ _ _ us hl => match us, hl with | [_], _ => rfl)
      (case a18 => k_is)
      (case l18 => k_is)
      (case c18 => k_is)
      (case k18 => k_is)
      (case b19 => exact fun _ _ _ _ _ _ us hl => match us, hl with | [_, _], _ => rfl)
      (case a19 => k_is)
      (case l19 => k_is)
      (case c19 => k_is)
      (case k19 => k_is)
      (case b20 => exact fun _ _ _ _ _ _ us hl => match us, hl with | [_], _ => rfl)
      (case a20 => k_is)
      (case l20 => k_is)
      (case c20 => k_is)
      (case k20 => k_is)
      (case v0 => k_is)
      (case r0 => exact ⟨_, rfl⟩)
      (case v1 => k_is)
      (case r1 => exact ⟨_, rfl⟩)
      (case v2 => k_is)
      (case r2 => exact ⟨_, rfl⟩)
      (case v3 => k_is)
      (case v4 => k_is)
      (case v5 => k_is)
      (case v6 => k_is)
      (case v7 => k_is)
      (case v8 => k_is)
      (case v9 => k_is)
      (case v10 => k_is)
      (case v11 => k_is)
      (case v12 => k_is)
